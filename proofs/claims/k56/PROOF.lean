import PyProof.Rows.All
import Wide.All
import OpenK.AllK
import Wide.FinOn
import PyProof.ReprRoads
import KE.KDictPairs
import HandS.ForMost
import HandS.IsInst
import HandS.DictComp
import HandS.Style
import HandS.Conv
import HandS.WordsExc
import HandS.Lambda
import HandS.EndTab
import HandS.Evl
import PySem.Challenge.RW_noringgains_k56_family_calendars_by_comm
import HandS.ExcIs
set_option Elab.async false
set_option linter.all false
set_option maxRecDepth 100000
set_option maxHeartbeats 4000000
namespace K56
/-! ### ascending lists -/
abbrev Asc (l : List Int) : Prop := l.Pairwise (· < ·)
theorem asc_ext : ∀ {l₁ l₂ : List Int}, Asc l₁ → Asc l₂ → (∀ x, x ∈ l₁ ↔ x ∈ l₂) → l₁ = l₂
  | [], [], _, _, _ => rfl
  | [], b :: r, _, _, h => absurd ((h b).2 List.mem_cons_self) (by simp)
  | a :: r, [], _, _, h => absurd ((h a).1 List.mem_cons_self) (by simp)
  | a :: r, b :: q, h1, h2, h => by
    obtain ⟨ha, hr⟩ := List.pairwise_cons.mp h1
    obtain ⟨hb, hq⟩ := List.pairwise_cons.mp h2
    have hab : a = b := by
      rcases List.mem_cons.mp ((h a).1 List.mem_cons_self) with e | e
      · exact e
      · rcases List.mem_cons.mp ((h b).2 List.mem_cons_self) with e' | e'
        · exact e'.symm
        · have := hb a e
          have := ha b e'
          omega
    subst hab
    rw [asc_ext hr hq fun x => ?_]
    have k := h x
    constructor
    · intro hx
      rcases List.mem_cons.mp (k.1 (List.mem_cons_of_mem _ hx)) with e | e
      · have := ha x hx
        omega
      · exact e
    · intro hx
      rcases List.mem_cons.mp (k.2 (List.mem_cons_of_mem _ hx)) with e | e
      · have := hb x hx
        omega
      · exact e
theorem asc_filter {l : List Int} (h : Asc l) (p : Int → Bool) : Asc (l.filter p) := h.filter p
/-! ### progressions -/
/-- n numbers from f on by steps of s -/
def steps (f s : Int) (n : Nat) : List Int := (List.range n).map fun (i : Nat) => f + (i : Int) * s
theorem steps_len (f s : Int) (n : Nat) : (steps f s n).length = n := by simp [steps]
theorem steps_get {f s : Int} {n i : Nat} (h : i < n) : (steps f s n)[i]? = some (f + (i : Int) * s) := by
  unfold steps
  rw [List.getElem?_map, List.getElem?_range h]
  rfl
theorem steps_asc {f s : Int} (hs : 0 < s) (n : Nat) : Asc (steps f s n) := by
  unfold steps
  refine List.pairwise_map.mpr ?_
  refine List.Pairwise.imp ?_ (List.pairwise_lt_range (n := n))
  intro a b h
  have h1 : (a : Int) < (b : Int) := by omega
  have h2 := Int.mul_lt_mul_of_pos_right h1 hs
  omega
theorem mem_steps {f s x : Int} {n : Nat} : x ∈ steps f s n ↔ ∃ i : Nat, i < n ∧ x = f + (i : Int) * s := by
  unfold steps
  simp only [List.mem_map, List.mem_range]
  constructor
  · rintro ⟨i, h, e⟩
    exact ⟨i, h, e.symm⟩
  · rintro ⟨i, h, e⟩
    exact ⟨i, h, e.symm⟩
/-- how many numbers of a progression are at most m -/
def num (m f s : Int) : Nat := if f ≤ m then ((m - f) / s + 1).toNat else 0
theorem lt_num {m f s : Int} (hs : 0 < s) (i : Nat) : i < num m f s ↔ f + (i : Int) * s ≤ m := by
  unfold num
  split
  · rename_i h
    have e : (i : Int) ≤ (m - f) / s ↔ (i : Int) * s ≤ m - f := Int.le_ediv_iff_mul_le hs
    have h0 : 0 ≤ (m - f) / s := Int.ediv_nonneg (by omega) (by omega)
    constructor
    · intro hi
      have : (i : Int) ≤ (m - f) / s := by omega
      have := e.1 this
      omega
    · intro hi
      have : (i : Int) * s ≤ m - f := by omega
      have := e.2 this
      omega
  · rename_i h
    have h1 : 0 ≤ (i : Int) * s := Int.mul_nonneg (by omega) (by omega)
    constructor
    · intro hi
      omega
    · intro hi
      omega
/-- the progression up to m -/
def upto (m f s : Int) : List Int := steps f s (num m f s)
abbrev days (f s : Int) : List Int := upto 400 f s
theorem upto_asc {m f s : Int} (hs : 0 < s) : Asc (upto m f s) := steps_asc hs _
theorem mem_upto {m f s x : Int} (hs : 0 < s) : x ∈ upto m f s ↔ f ≤ x ∧ x ≤ m ∧ s ∣ x - f := by
  unfold upto
  rw [mem_steps]
  constructor
  · rintro ⟨i, h, e⟩
    have h2 := (lt_num hs i).1 h
    have h1 : 0 ≤ (i : Int) * s := Int.mul_nonneg (by omega) (by omega)
    refine ⟨by omega, by omega, ⟨(i : Int), ?_⟩⟩
    rw [e, Int.mul_comm]
    omega
  · rintro ⟨h1, h2, k, hk⟩
    have hk0 : 0 ≤ k := by
      rcases Int.lt_or_le k 0 with h | h
      · have := Int.mul_neg_of_pos_of_neg hs h
        omega
      · exact h
    obtain ⟨i, rfl⟩ := Int.eq_ofNat_of_zero_le hk0
    have e : x = f + (i : Int) * s := by
      rw [Int.mul_comm]
      omega
    refine ⟨i, (lt_num hs i).2 (by omega), e⟩
theorem upto_get {m f s : Int} {i : Nat} (hs : 0 < s) (h : f + (i : Int) * s ≤ m) : (upto m f s)[i]? = some (f + (i : Int) * s) := steps_get ((lt_num hs i).2 h)
theorem upto_len (m f s : Int) : (upto m f s).length = num m f s := steps_len _ _ _
/-! ### common days -/
/-- the rows: first day, step -/
def Common (rows : List (Int × Int)) (d : Int) : Prop := ∀ r ∈ rows, r.1 ≤ d ∧ r.2 ∣ d - r.1
/-- what the common days are: first day, step -/
def Is (rows : List (Int × Int)) (first step : Int) : Prop := ∀ d : Int, Common rows d ↔ first ≤ d ∧ step ∣ d - first
/-- there is none -/
def Never (rows : List (Int × Int)) : Prop := ∀ d : Int, d ≤ 400 → ¬ Common rows d
theorem is_one (f s : Int) : Is [(f, s)] f s := fun d => by simp [Common]
def meets (first step other more : Int) (lap : Nat) : Prop := other ≤ first + step * (lap : Int) ∧ (first + step * (lap : Int) - other) % more = 0
theorem common_snoc {rows : List (Int × Int)} {r : Int × Int} {d : Int} : Common (rows ++ [r]) d ↔ Common rows d ∧ r.1 ≤ d ∧ r.2 ∣ d - r.1 := by
  unfold Common
  constructor
  · intro h
    exact ⟨fun q hq => h q (List.mem_append_left _ hq), h r (List.mem_append_right _ List.mem_cons_self)⟩
  · rintro ⟨h1, h2⟩ q hq
    rcases List.mem_append.mp hq with h | h
    · exact h1 q h
    · rw [List.mem_singleton.mp h]
      exact h2
theorem never_mono {rows more : List (Int × Int)} (h : Never rows) : Never (rows ++ more) := fun d hd hc => h d hd fun r hr => hc r (List.mem_append_left _ hr)
theorem common_meets {first step other more d : Int} (hs : 0 < step) (hm : 0 < more) (h1 : first ≤ d) (h2 : step ∣ d - first) (h3 : other ≤ d) (h4 : more ∣ d - other) :
    ∃ k : Nat, d = first + step * (k : Int) ∧ meets first step other more k := by
  obtain ⟨k, hk⟩ := h2
  have hk0 : 0 ≤ k := by
    rcases Int.lt_or_le k 0 with h | h
    · have := Int.mul_neg_of_pos_of_neg hs h
      omega
    · exact h
  obtain ⟨i, rfl⟩ := Int.eq_ofNat_of_zero_le hk0
  have e : d = first + step * (i : Int) := by omega
  refine ⟨i, e, ?_⟩
  unfold meets
  rw [← e]
  exact ⟨h3, Int.emod_eq_zero_of_dvd h4⟩
theorem never_step {rows : List (Int × Int)} {first step other more : Int} (h : Is rows first step) (h0 : 0 ≤ first) (hs : 0 < step) (hm : 0 < more) (n : Nat) (hn : 401 / step < (n : Int)) (hno : ∀ k : Nat, k < n → ¬ meets first step other more k) :
    Never (rows ++ [(other, more)]) := by
  intro d hd hc
  obtain ⟨c1, c2, c3⟩ := common_snoc.mp hc
  obtain ⟨a1, a2⟩ := (h d).1 c1
  obtain ⟨k, e, hk⟩ := common_meets hs hm a1 a2 c2 c3
  refine hno k ?_ hk
  have h1 : step * (k : Int) ≤ 401 := by omega
  have h2 : (k : Int) * step ≤ 401 := by
    rw [Int.mul_comm]
    exact h1
  have h3 : (k : Int) ≤ 401 / step := (Int.le_ediv_iff_mul_le hs).2 h2
  omega
/-- the least common multiple, as the law reckons it -/
def lcmOf (step more g : Int) : Int := step / g * more
theorem lcm_dvd {step more : Int} (hs : 0 < step) (hm : 0 < more) (x : Int) : lcmOf step more (Int.gcd step more) ∣ x ↔ step ∣ x ∧ more ∣ x := by
  obtain ⟨a, rfl⟩ := Int.eq_ofNat_of_zero_le (Int.le_of_lt hs)
  obtain ⟨b, rfl⟩ := Int.eq_ofNat_of_zero_le (Int.le_of_lt hm)
  have ha : 0 < a := by omega
  have e : lcmOf (a : Int) (b : Int) (Int.gcd (a : Int) (b : Int)) = ((Nat.lcm a b : Nat) : Int) := by
    unfold lcmOf
    rw [show Int.gcd (a : Int) (b : Int) = Nat.gcd a b from rfl]
    rw [← Int.natCast_ediv, ← Int.natCast_mul]
    congr 1
    unfold Nat.lcm
    rw [Nat.mul_comm a b, Nat.mul_div_assoc _ (Nat.gcd_dvd_left a b), Nat.mul_comm]
  rw [e]
  rw [Int.ofNat_dvd_left, Int.ofNat_dvd_left, Int.ofNat_dvd_left]
  exact ⟨fun h => ⟨Nat.dvd_trans (Nat.dvd_lcm_left a b) h, Nat.dvd_trans (Nat.dvd_lcm_right a b) h⟩, fun ⟨h1, h2⟩ => Nat.lcm_dvd h1 h2⟩
theorem lcm_pos {step more : Int} (hs : 0 < step) (hm : 0 < more) : 0 < lcmOf step more (Int.gcd step more) := by
  obtain ⟨a, rfl⟩ := Int.eq_ofNat_of_zero_le (Int.le_of_lt hs)
  obtain ⟨b, rfl⟩ := Int.eq_ofNat_of_zero_le (Int.le_of_lt hm)
  unfold lcmOf
  rw [show Int.gcd (a : Int) (b : Int) = Nat.gcd a b from rfl, ← Int.natCast_ediv]
  have h1 : 0 < a / Nat.gcd a b := Nat.div_pos (Nat.le_of_dvd (by omega) (Nat.gcd_dvd_left a b)) (Nat.gcd_pos_of_pos_left _ (by omega))
  exact Int.mul_pos (by omega) hm
theorem lcm_le {step more : Int} (hs : 0 < step) (hm : 0 < more) : lcmOf step more (Int.gcd step more) ≤ step * more := by
  obtain ⟨a, rfl⟩ := Int.eq_ofNat_of_zero_le (Int.le_of_lt hs)
  obtain ⟨b, rfl⟩ := Int.eq_ofNat_of_zero_le (Int.le_of_lt hm)
  unfold lcmOf
  rw [show Int.gcd (a : Int) (b : Int) = Nat.gcd a b from rfl, ← Int.natCast_ediv]
  refine Int.mul_le_mul_of_nonneg_right ?_ (by omega)
  have := Nat.div_le_self a (Nat.gcd a b)
  omega
theorem is_step {rows : List (Int × Int)} {first step other more : Int} (h : Is rows first step) (hs : 0 < step) (hm : 0 < more) (k : Nat) (hk : meets first step other more k) (hno : ∀ j : Nat, j < k → ¬ meets first step other more j) :
    Is (rows ++ [(other, more)]) (first + step * (k : Int)) (lcmOf step more (Int.gcd step more)) := by
  intro d
  obtain ⟨k1, k2⟩ := hk
  have k3 : more ∣ first + step * (k : Int) - other := Int.dvd_of_emod_eq_zero k2
  have kk : 0 ≤ step * (k : Int) := Int.mul_nonneg (by omega) (by omega)
  rw [common_snoc, h d, lcm_dvd hs hm]
  constructor
  · rintro ⟨⟨a1, a2⟩, a3, a4⟩
    have a3 : other ≤ d := a3
    have a4 : more ∣ d - other := a4
    obtain ⟨j, e, hj⟩ := common_meets hs hm a1 a2 a3 a4
    have hkj : k ≤ j := Nat.le_of_not_lt fun hlt => hno j hlt hj
    have e2 : step * (k : Int) ≤ step * (j : Int) := Int.mul_le_mul_of_nonneg_left (by omega) (by omega)
    refine ⟨by omega, ?_, ?_⟩
    · have : d - (first + step * (k : Int)) = (d - first) - step * (k : Int) := by omega
      rw [this]
      exact Int.dvd_sub a2 ⟨_, rfl⟩
    · have : d - (first + step * (k : Int)) = (d - other) - (first + step * (k : Int) - other) := by omega
      rw [this]
      exact Int.dvd_sub a4 k3
  · rintro ⟨b1, b2, b3⟩
    refine ⟨⟨by omega, ?_⟩, ?_, ?_⟩
    · have : d - first = (d - (first + step * (k : Int))) + step * (k : Int) := by omega
      rw [this]
      exact Int.dvd_add b2 ⟨_, rfl⟩
    · show other ≤ d
      omega
    · show more ∣ d - other
      have : d - other = (d - (first + step * (k : Int))) + (first + step * (k : Int) - other) := by omega
      rw [this]
      exact Int.dvd_add b3 k3
/-- Euclid, a step -/
theorem gcd_step {one two : Int} (h0 : 0 ≤ one) (h1 : 0 < two) : Int.gcd two (one % two) = Int.gcd one two := by
  obtain ⟨a, rfl⟩ := Int.eq_ofNat_of_zero_le h0
  obtain ⟨b, rfl⟩ := Int.eq_ofNat_of_zero_le (Int.le_of_lt h1)
  rw [← Int.natCast_emod]
  show Nat.gcd b (a % b) = Nat.gcd a b
  rw [Nat.gcd_comm a b, Nat.gcd_rec b a, Nat.gcd_comm]
theorem gcd_end {one : Int} (h : 0 < one) : (Int.gcd one 0 : Int) = one := by
  rw [Int.gcd_zero]
  omega
/-! ### the days of some rows -/
theorem days_of {rows : List (Int × Int)} {first step : Int} (h : Is rows first step) (hs : 0 < step) {l : List Int} (ha : Asc l) (hm : ∀ d, d ∈ l ↔ d ≤ 400 ∧ Common rows d) : l = days first step := by
  refine asc_ext ha (upto_asc hs) fun d => ?_
  rw [hm, mem_upto hs, h d]
  constructor
  · rintro ⟨a, b, c⟩
    exact ⟨b, a, c⟩
  · rintro ⟨a, b, c⟩
    exact ⟨b, a, c⟩
theorem none_of {rows : List (Int × Int)} (h : Never rows) {l : List Int} (hm : ∀ d, d ∈ l ↔ d ≤ 400 ∧ Common rows d) : l = [] := by
  cases l with
  | nil => rfl
  | cons x r =>
    obtain ⟨h1, h2⟩ := (hm x).1 List.mem_cons_self
    exact absurd h2 (h x h1)
/-! ### what settles -/
/-- how many steps until a day -/
def cnt (start first step : Int) : Int := max 0 ((start - first + step - 1) / step)
theorem cnt_le {start first step : Int} (hs : 0 < step) : start ≤ first + step * cnt start first step := by
  unfold cnt
  have h2 := Int.lt_mul_ediv_self_add (x := start - first + step - 1) hs
  rcases Int.lt_or_le ((start - first + step - 1) / step) 0 with h | h
  · rw [Int.max_eq_left (Int.le_of_lt h)]
    have h3 : step * ((start - first + step - 1) / step) ≤ step * (-1) := Int.mul_le_mul_of_nonneg_left (by omega) (by omega)
    omega
  · rw [Int.max_eq_right h]
    omega
theorem cnt_nonneg (start first step : Int) : 0 ≤ cnt start first step := by
  unfold cnt
  omega
theorem cnt_least {start first step : Int} (hs : 0 < step) {i : Int} (hi : 0 ≤ i) (h : start ≤ first + step * i) : cnt start first step ≤ i := by
  unfold cnt
  have h1 : (start - first + step - 1) / step ≤ i := by
    have : (start - first + step - 1) / step < i + 1 := by
      rw [Int.ediv_lt_iff_lt_mul hs, Int.add_mul, Int.one_mul, Int.mul_comm i step]
      omega
    omega
  omega
theorem after_eq {first step start : Int} (hs : 0 < step) : (days first step).filter (fun d => decide (start ≤ d)) = days (first + step * cnt start first step) step := by
  refine asc_ext (asc_filter (upto_asc hs) _) (upto_asc hs) fun d => ?_
  have c0 := cnt_nonneg start first step
  have c1 := cnt_le (start := start) (first := first) hs
  have c2 : 0 ≤ step * cnt start first step := Int.mul_nonneg (by omega) c0
  rw [List.mem_filter, mem_upto hs, mem_upto hs, decide_eq_true_eq]
  constructor
  · rintro ⟨⟨a1, a2, k, a3⟩, a4⟩
    have hk0 : 0 ≤ k := by
      rcases Int.lt_or_le k 0 with h | h
      · have := Int.mul_neg_of_pos_of_neg hs h
        omega
      · exact h
    have hc := cnt_least (start := start) (first := first) hs hk0 (by omega)
    have hm : step * cnt start first step ≤ step * k := Int.mul_le_mul_of_nonneg_left hc (by omega)
    refine ⟨by omega, a2, k - cnt start first step, ?_⟩
    rw [Int.mul_sub]
    omega
  · rintro ⟨a1, a2, k, a3⟩
    refine ⟨⟨by omega, a2, cnt start first step + k, ?_⟩, by omega⟩
    rw [Int.mul_add]
    omega
theorem after_get {first step start : Int} (hs : 0 < step) {lag : Nat} (h : first + step * (cnt start first step + (lag : Int)) ≤ 400) :
    ((days first step).filter (fun d => decide (start ≤ d)))[lag]? = some (first + step * (cnt start first step + (lag : Int))) := by
  rw [after_eq hs]
  have e : first + step * (cnt start first step + (lag : Int)) = first + step * cnt start first step + (lag : Int) * step := by
    rw [Int.mul_add, Int.mul_comm step (lag : Int)]
    omega
  rw [e] at h ⊢
  exact upto_get hs h
theorem after_len {first step start : Int} (hs : 0 < step) (lag : Nat) :
    lag < ((days first step).filter (fun d => decide (start ≤ d))).length ↔ first + step * (cnt start first step + (lag : Int)) ≤ 400 := by
  rw [after_eq hs, upto_len, lt_num hs]
  have e : first + step * (cnt start first step + (lag : Int)) = first + step * cnt start first step + (lag : Int) * step := by
    rw [Int.mul_add, Int.mul_comm step (lag : Int)]
    omega
  rw [e]
theorem until_eq {first step day : Int} (hs : 0 < step) (hd : day ≤ 400) : (days first step).filter (fun d => decide (d ≤ day)) = upto day first step := by
  refine asc_ext (asc_filter (upto_asc hs) _) (upto_asc hs) fun d => ?_
  rw [List.mem_filter, mem_upto hs, mem_upto hs, decide_eq_true_eq]
  constructor
  · rintro ⟨⟨a1, a2, a3⟩, a4⟩
    exact ⟨a1, a4, a3⟩
  · rintro ⟨a1, a2, a3⟩
    exact ⟨⟨a1, by omega, a3⟩, a2⟩
theorem until_len {first step day : Int} (hs : 0 < step) (hd : day ≤ 400) (hf : first ≤ day) : (((days first step).filter (fun d => decide (d ≤ day))).length : Int) = (day - first) / step + 1 := by
  rw [until_eq hs hd, upto_len]
  unfold num
  rw [if_pos hf]
  have h0 : 0 ≤ (day - first) / step := Int.ediv_nonneg (by omega) (by omega)
  omega
theorem until_none {first step day : Int} (hs : 0 < step) (hd : day ≤ 400) (hf : day < first) : (days first step).filter (fun d => decide (d ≤ day)) = [] := by
  rw [until_eq hs hd]
  unfold upto num
  rw [if_neg (by omega)]
  rfl
theorem until_get {first step day : Int} (hs : 0 < step) (hd : day ≤ 400) (hf : first ≤ day) {i : Nat} (hi : (i : Int) ≤ (day - first) / step) :
    ((days first step).filter (fun d => decide (d ≤ day)))[i]? = some (first + step * (i : Int)) := by
  rw [until_eq hs hd, Int.mul_comm]
  refine upto_get hs ?_
  have := (Int.le_ediv_iff_mul_le hs).1 hi
  omega
end K56
namespace N56
open PySem PySem.Spec PyProof.Rows L2
open K56 (steps)
/-! ### a def that may be called by its name -/
structure Cal (P : Program) (w : World) (K : PySem.W.Frag) (mg : Str → Option Value) (base : Heap) (CX : CXT) (k : Nat) (x : Str) (ps : List Str) (sp : Sp) : Prop where
  ex : ∃ (f : Addr) (fd : FuncData), FnOk P w K mg base CX k f fd ps sp ∧ mg x = some (.ref f) ∧ PySem.W.keepIn K (.ref f) = true ∧ Binds K fd ps []
section
variable {X : Cx} {k j : Nat} {x : Str} {ps : List Str} {sp : Sp} {p pos : Pos} {e : Expr} {es : List Expr} {t : TA}
theorem pe_cl (c : Cal X.prog X.w X.K X.mg X.base CX0 k x ps sp) (hr : Room j X.A) (hk : k ≤ j) (hg : Gl X x) (ha : PA X (e :: es) t)
    (hdb : (x == ("__debug__" : Str)) = false := by decide) (he : starEach (e :: es) X.env = (false, eval e X.env) :: starEach es X.env := by rfl)
    (hpl : (backTo pos (starEach es X.env)).any (·.1) = false := by rfl) : PE X (.Call (.Name x p) (e :: es) [] pos) (tCall sp [] E0 t) := by
  obtain ⟨f, fd, F, hm, kp, b⟩ := c.ex
  exact pe_call F (hr.mono hk) hg hm kp b .nil pass0 ha hdb he hpl
end
/-! ### items that are ints or texts, compared -/
def rLtA : R2 := fun x y H Q => (∃ i j, x = .int i ∧ y = .int j ∧ Q (.bl (decide (i < j))) H) ∨ ∃ i j, x = .str i ∧ y = .str j ∧ Q (.bl (decide (i.cps.toList < j.cps.toList))) H
theorem op_ltA {X : Cx} : OpR X (compareOp .Lt) rLtA := by
  intro pins s σ H x y v u Q I rx ry h
  rcases h with h | h
  · exact op_lt pins s σ H x y v u Q I rx ry h
  · exact op_lt_str pins s σ H x y v u Q I rx ry h
/-! ### range(a, b, c) handed on to tuple, list -/
section
variable {X : Cx} {a b c : Expr} {ta : TA} {p p2 q pos : Pos}
theorem eval_rg3 {pins : List (Addr × Obj)} {σ : L2.St} {H : Hp} {s : Shared} {R : Int → Int → Int → Nat → Hp → Prop} (I : Inv X pins σ H s) (hg : Gl X "range") (hm : X.mg "range" = none) (ha : PA X [a, b, c] ta)
    (h : ta σ H fun vs H1 => ∃ (i j k : Int) (n : Nat), vs = [.int i, .int j, .int k] ∧ RgC i j k n ∧ R i j k n H1)
    (hs : starEach [a, b, c] X.env = (false, eval a X.env) :: starEach [b, c] X.env := by rfl) (hpl : (backTo pos (starEach [b, c] X.env)).any (·.1) = false := by rfl) :
    wpAny (model X.prog X.w) X.A (eval (.Call (.Name "range" p) [a, b, c] [] pos) X.env)
      (fun v s' => ∃ (r : Addr) (i j k : Int) (n : Nat) (t u w' : Tok) (H' : Hp), v = .ref r ∧ IsRange s'.heap r i j k t u w' ∧ RgC i j k n ∧ Inv X pins σ H' s' ∧ R i j k n H') X.xe s := by
  refine Call_ (ld_blt I hg hm boot_range (PyProof.Rows.callWith_type1 (thn (ha.run pos pins s σ H _ I h) fun us s1 hh => ?_) hs hpl))
  obtain ⟨vs, H1, I1, r1, i, j, k, n, e, ok, hR⟩ := hh
  subst e
  cases r1 with
  | cons r rr =>
    cases rr with
    | cons r' rr =>
      cases rr with
      | cons r'' rr =>
        cases rr
        obtain ⟨t, rfl⟩ := r
        obtain ⟨t', rfl⟩ := r'
        obtain ⟨t'', rfl⟩ := r''
        refine call_range_3 ok.1 ?_ (.inl (PyProof.noPylong_small ok.2.1))
        exact ⟨_, i, j, k, n, t, t', t'', H1, rfl, IsRange.new .., ok, I1.kept fun z o e => Heap.get?_push_of_some _ e, hR⟩
theorem vals_steps {i k : Int} {n : Nat} {acc : Array Value} (h : ItemsOf (fun j v => ∃ t, v = .int (i + j * k) t) acc n) : Vals ((steps i k n).map V.int) acc.toList := by
  have e : acc.toList.length = n := by
    rw [Array.length_toList]
    exact h.1
  unfold steps
  rw [List.map_map, ← e]
  refine vals_of_get acc.toList _ fun j u hj => ?_
  obtain ⟨t, rfl⟩ := h.2 j u (by rw [← hj, Array.getElem?_toList])
  exact ⟨t, rfl⟩
def tTupRg3 (ta : TA) : TE := fun σ H Q => ta σ H fun vs H1 => ∃ (i j k : Int) (n : Nat), vs = [.int i, .int j, .int k] ∧ RgC i j k n ∧ n ≤ 1000 ∧ ∀ q, H1 q = none → Q (.ref q) (upd H1 q (.tup ((steps i k n).map V.int)))
def tLstRg3 (ta : TA) : TE := fun σ H Q => ta σ H fun vs H1 => ∃ (i j k : Int) (n : Nat), vs = [.int i, .int j, .int k] ∧ RgC i j k n ∧ n ≤ 1000 ∧ ∀ q, H1 q = none → Q (.ref q) (upd H1 q (.lst ((steps i k n).map V.int)))
theorem len_line {n : Nat} (h : n ≤ 1000) : n ≤ sizeLine := Nat.le_of_lt (small1000 h)
theorem pe_tupRg3 (hc : X.calm = true) (hg : Gl X "tuple") (hm : X.mg "tuple" = none) (hg2 : Gl X "range") (hm2 : X.mg "range" = none) (ha : PA X [a, b, c] ta)
    (hs : starEach [a, b, c] X.env = (false, eval a X.env) :: starEach [b, c] X.env := by rfl) (hpl : (backTo q (starEach [b, c] X.env)).any (·.1) = false := by rfl)
    (na : starEach [.Call (.Name "range" p2) [a, b, c] [] q] X.env = (false, eval (.Call (.Name "range" p2) [a, b, c] [] q) X.env) :: starEach [] X.env := by rfl) :
    PE X (.Call (.Name "tuple" p) [.Call (.Name "range" p2) [a, b, c] [] q] [] pos) (tTupRg3 ta) := by
  refine ⟨fun pins s σ H Q I h => ?_⟩
  refine Call_ (ld_blt I hg hm boot_tuple (PyProof.Rows.callWith_type1 (args_cons (thn (eval_rg3 (R := fun i j k n H1 => n ≤ 1000 ∧ ∀ q, H1 q = none → Q (.ref q) (upd H1 q (.tup ((steps i k n).map V.int)))) I hg2 hm2 ha h hs hpl)
    fun v s1 hv => args_nil ?_) na) na))
  obtain ⟨r, i, j, k, n, t, u, w', H1, rfl, hr, ⟨c0, c1, c2, c3⟩, I1, hn, q⟩ := hv
  refine call_tuple_range (n := n) (I1.ok.hd hc) hr c2 (by rw [c3]) (by omega) fun h' tk acc hk hi => ?_
  have I2 : Inv X pins σ H1 { s1 with heap := h', toks := tk } := I1.kept hk
  have hl : ((steps i k n).map V.int).length ≤ sizeLine := by
    rw [List.length_map, K56.steps_len]
    exact len_line hn
  have ob : ObjOk X.prog X.w (upd H1 h'.objs.size (.tup ((steps i k n).map V.int))) (h'.push { cls := .type "tuple", data := .seq acc }) h'.objs.size (.tup ((steps i k n).map V.int)) :=
    ⟨hl, acc.toList, vals_steps hi, by rw [Array.toArray_toList]; exact IsTup.new _ _⟩
  exact ⟨.ref h'.objs.size, _, I2.laid (t' := tk) (fun z o e => Heap.get?_push_of_some _ e) (Nat.le_refl _) ob, rfl, q _ (I2.hok.fresh (Nat.le_refl _))⟩
theorem pe_lstRg3 (hc : X.calm = true) (hg : Gl X "list") (hm : X.mg "list" = none) (hg2 : Gl X "range") (hm2 : X.mg "range" = none) (ha : PA X [a, b, c] ta)
    (hs : starEach [a, b, c] X.env = (false, eval a X.env) :: starEach [b, c] X.env := by rfl) (hpl : (backTo q (starEach [b, c] X.env)).any (·.1) = false := by rfl)
    (na : starEach [.Call (.Name "range" p2) [a, b, c] [] q] X.env = (false, eval (.Call (.Name "range" p2) [a, b, c] [] q) X.env) :: starEach [] X.env := by rfl) :
    PE X (.Call (.Name "list" p) [.Call (.Name "range" p2) [a, b, c] [] q] [] pos) (tLstRg3 ta) := by
  refine ⟨fun pins s σ H Q I h => ?_⟩
  refine Call_ (ld_blt I hg hm boot_list (PyProof.Rows.callWith_type1 (args_cons (thn (eval_rg3 (R := fun i j k n H1 => n ≤ 1000 ∧ ∀ q, H1 q = none → Q (.ref q) (upd H1 q (.lst ((steps i k n).map V.int)))) I hg2 hm2 ha h hs hpl)
    fun v s1 hv => args_nil ?_) na) na))
  obtain ⟨r, i, j, k, n, t, u, w', H1, rfl, hr, ⟨c0, c1, c2, c3⟩, I1, hn, q⟩ := hv
  refine call_list_range (n := n) (I1.ok.hd hc) hr c2 (by rw [c3]) (by omega) fun h' tk acc c' hk e' hi => ?_
  have hl : ((steps i k n).map V.int).length ≤ sizeLine := by
    rw [List.length_map, K56.steps_len]
    exact len_line hn
  have ob : ObjOk X.prog X.w (upd H1 s1.heap.objs.size (.lst ((steps i k n).map V.int))) h' s1.heap.objs.size (.lst ((steps i k n).map V.int)) :=
    ⟨hl, acc.toList, c', vals_steps hi, by rw [Array.toArray_toList]; exact e'⟩
  exact ⟨.ref s1.heap.objs.size, _, I1.laid (t' := tk) hk (Nat.le_refl _) ob, rfl, q _ (I1.hok.fresh (Nat.le_refl _))⟩
end
/-! ### a tuple made of a list, its object told; dict(..) of such a tuple of pairs -/
section
variable {X : Cx}
theorem call_tupF : CallR X (.type "tuple") (fun xs H Q => ∃ p ys, xs = [.ref p] ∧ SqL X.K H p ys ∧ ∀ l o, H l = none → o.dict = none → Q (.ref l) (upd H l (.frz o (.tup ys)))) := by
  intro pins s σ H xs us Q I r h
  obtain ⟨p, ys, rfl, hs, q⟩ := h
  obtain ⟨u, rfl, rx⟩ := vals1 r
  obtain rfl : u = Value.ref p := rx
  obtain ⟨its, rv, pl, hz⟩ := I.list hs
  refine call_tuple_list pl.isList (fun h' hk => ?_) (by rw [List.size_toArray, ← rv.length]; exact hz)
  have I1 : Inv X pins σ H { s with heap := h' } := I.kept (t' := s.toks) hk
  have get : (h'.push { cls := .type "tuple", data := .seq its.toArray }).get? h'.objs.size = some { cls := .type "tuple", data := .seq its.toArray } := Heap.get?_push_size _ rfl
  have ob : ObjOk X.prog X.w (upd H h'.objs.size (.frz { cls := .type "tuple", data := .seq its.toArray } (.tup ys))) (h'.push { cls := .type "tuple", data := .seq its.toArray }) h'.objs.size (.frz { cls := .type "tuple", data := .seq its.toArray } (.tup ys)) :=
    ⟨get, hz, its, rv, IsTup.new _ _⟩
  exact ⟨.ref h'.objs.size, _, I1.laid (t' := s.toks) (fun z o e => Heap.get?_push_of_some _ e) (Nat.le_refl _) ob, rfl, q _ _ (I1.hok.fresh (Nat.le_refl _)) rfl⟩
theorem call_dictT (hcalm : X.calm = true) : CallR X (.type "dict") (fun xs H Q => ∃ (a : Addr) (o : Obj) (ps : List Addr) (kvs : List (Key × V)), xs = [.ref a] ∧ H a = some (.frz o (.tup (ps.map V.ref))) ∧ o.dict = none ∧
    Paired (fun p kv => SqT X.K H p [kV kv.1, kv.2]) ps kvs ∧ ∀ p, H p = none → Q (.ref p) (upd H p (.dK (mergeK [] kvs)))) := by
  intro pins s σ H xs us Q I r h
  obtain ⟨a, o, ps, kvs, rfl, ha, hod, hp, q⟩ := h
  obtain ⟨u, rfl, rx⟩ := vals1 r
  obtain rfl : u = Value.ref a := rx
  obtain ⟨ho, hz, its, rv, o', ho', hc, n, hd⟩ := (show ObjOk X.prog X.w H s.heap a (.frz o (.tup (ps.map V.ref))) from I.hok a _ ha)
  have eo : o' = o := Option.some.inj (ho'.symm.trans ho)
  subst eo
  have ei := refs_at rv
  subst ei
  rw [List.length_map] at hz
  obtain ⟨prs, rel, hl, hpr⟩ := pairs_of I hp
  have hprs : ∀ j (hj : j < prs.length), ∃ (b : Addr) (u : Value), ps[j]? = some b ∧ IsTup s.heap b #[u, prs[j].2] ∧ keyIs prs[j].1 u = true := fun j hj => hpr j prs[j] (List.getElem?_eq_getElem hj)
  -- the pairs with their keys' values
  have cho : ∃ ws : List (Value × Value), ws.length = prs.length ∧ ∀ (j : Nat) (k v : Value), ws[j]? = some (k, v) → ∃ (b : Addr) (kk : Key), ps[j]? = some b ∧ IsTup s.heap b #[k, v] ∧ prs[j]? = some (kk, v) ∧ keyIs kk k = true := by
    clear ha hod hc hd ho ho' rv q
    have gen : ∀ m, m ≤ prs.length → ∃ ws : List (Value × Value), ws.length = m ∧ ∀ (j : Nat) (k v : Value), ws[j]? = some (k, v) → ∃ (b : Addr) (kk : Key), ps[j]? = some b ∧ IsTup s.heap b #[k, v] ∧ prs[j]? = some (kk, v) ∧ keyIs kk k = true := by
      intro m
      induction m with
      | zero => exact fun _ => ⟨[], rfl, fun j k v e => by simp at e⟩
      | succ m ih =>
        intro hm
        obtain ⟨ws, e1, e2⟩ := ih (by omega)
        obtain ⟨b, u, f1, f2, f3⟩ := hprs m (by omega)
        refine ⟨ws ++ [(u, prs[m].2)], by simp [e1], fun j k v e => ?_⟩
        by_cases hj : j < m
        · rw [List.getElem?_append_left (by omega)] at e
          exact e2 j k v e
        · have hj2 : j = m := by
            have := (List.getElem?_eq_some_iff.mp e).1
            rw [List.length_append, List.length_singleton] at this
            omega
          subst hj2
          rw [List.getElem?_append_right (by omega), e1, Nat.sub_self] at e
          cases e
          exact ⟨b, prs[j].1, f1, f2, List.getElem?_eq_getElem (by omega), f3⟩
    exact gen prs.length (Nat.le_refl _)
  obtain ⟨ws, w1, w2⟩ := cho
  have wl : ws.length = ps.length := w1.trans hl
  refine PySem.call_dict_pairs (knd := mixKind X.prog X.w) (kvs := prs) (PairArg.tuple a (ps.map Value.ref).toArray (fun j => ps.getD j 0) ws) (I.ok.hd hcalm) ⟨⟨o', n, ho', hc, hod, hd⟩, by simp [wl], fun j k v e => ?_⟩ ⟨w1.symm, fun j k v e => ?_⟩ (by rw [wl]; exact hz) fun h' tk hd' k => ?_
  · obtain ⟨b, kk, f1, f2, f3, f4⟩ := w2 j k v e
    refine ⟨by simp [f1, List.getD_eq_getElem?_getD], ?_⟩
    show PairAt s.heap (ps.getD j 0) k v
    rw [show ps.getD j 0 = b by simp [List.getD_eq_getElem?_getD, f1]]
    exact .inl (by obtain ⟨z, z1, z2, z3⟩ := f2; exact ⟨z, z1, z2, z3⟩)
  · obtain ⟨b, kk, f1, f2, f3, f4⟩ := w2 j k v e
    exact ⟨kk, f3, f4⟩
  · have hm : (s.heap.objs.size == sysModules) = false := beq_eq_false_iff_ne.mpr (Nat.ne_of_gt I.big)
    have hlen : (mergeK [] kvs).length ≤ sizeLine := by
      refine Nat.le_trans (length_mergeK kvs []) ?_
      rw [List.length_nil, Nat.zero_add, rel.length, hl]
      exact hz
    have ob : ObjOk X.prog X.w (upd H s.heap.objs.size (.dK (mergeK [] kvs))) h' s.heap.objs.size (.dK (mergeK [] kvs)) := ⟨hlen, hm, merged [] prs, KV.merge rel .nil, hd'⟩
    exact ⟨.ref s.heap.objs.size, _, I.laid (t' := tk) (fun b o e => k b o (by simp) e) (Nat.le_refl _) ob, rfl, q _ (I.hok.fresh (Nat.le_refl _))⟩
end
/-! ### repr of data, where nothing is being shown -/
theorem call_reprD {X : Cx} (hg : X.A.guards = some []) (hu : X.A.units + 200 < cLine) : CallR X (.builtin "repr") (fun xs H Q => ∃ x d, xs = [x] ∧ Dp X.K H x d ∧ d.showable = true ∧ d.hasDict = false ∧ d.depth ≤ 100 ∧ d.shown.length ≤ sizeLine ∧ Q (.str d.shown) H) := by
  intro pins s σ H xs us Q I r h
  obtain ⟨x, d, rfl, hd, hs, hn, hdep, hsz, q⟩ := h
  obtain ⟨u, rfl, rx⟩ := vals1 r
  have fin : ∀ (h' : Heap) (tk t : Nat), (∀ b o, s.heap.get? b = some o → h'.get? b = some o) → EP X pins σ Q (.str d.shown t) { s with heap := h', toks := tk } := fun h' tk t hk => ⟨.str d.shown, H, I.kept hk, ⟨t, rfl⟩, q⟩
  have seqs : ∀ a, x = .ref a → wpAny (model X.prog X.w) X.A (call (.builtin "repr") [u]) (EP X pins σ Q) X.xe s := fun a e => by
    subst e
    obtain ⟨as, rd⟩ := Dp.reads I d _ _ hd rx
    obtain rfl : u = Value.ref a := rx
    exact repr_of_reads' rd hs (fun z => by rw [hn] at z; cases z) hg (by omega) (fun _ _ e => e) (fun h' u tk hk => fin h' tk u hk) hsz
  cases hd with
  | non =>
    obtain rfl : u = Value.none := rx
    exact PySem.P.repr_of_none (fin s.heap _ _ fun _ _ e => e)
  | bl b =>
    obtain rfl : u = Value.bool b := rx
    exact PySem.P.repr_of_bool (fin s.heap _ _ fun _ _ e => e)
  | int i =>
    obtain ⟨t, rfl⟩ := rx
    exact PySem.P.repr_of_int (of_decide_eq_true hs) (fin s.heap _ _ fun _ _ e => e)
  | str z =>
    obtain ⟨t, rfl⟩ := rx
    exact PySem.P.repr_of_str (fin s.heap _ _ fun _ _ e => e) hsz
  | lst h1 h2 => exact seqs _ rfl
  | tup h1 h2 => exact seqs _ rfl
end N56
namespace N56
open PySem PySem.Spec PyProof.Rows L2 Evl
/-! ### promises of defs that only make new things -/
/-- the def returns a value with Post, where Pre holds; all that is tracked stays -/
def spR (Pre : List V → Hp → Prop) (Post : List V → V → Hp → Prop) : Sp := fun vs H Q _ => Pre vs H ∧ ∀ v H', Ex H H' → Post vs v H' → Q v H'
/-- a tuple of xs, new or not -/
def EvW (te : TE) (σ : L2.St) (H : Hp) (xs : List V) : Prop := ∀ H1, Ex H H1 → ∀ Q : VK, (∀ p H2, Ex H1 H2 → H2 p = some (.tup xs) → Q (.ref p) H2) → te σ H1 Q
/-- a tuple of xs that may be read -/
def EvQ (K : PySem.W.Frag) (te : TE) (σ : L2.St) (H : Hp) (xs : List V) : Prop := ∀ H1, Ex H H1 → ∀ Q : VK, (∀ p H2, Ex H1 H2 → SqT K H2 p xs → Q (.ref p) H2) → te σ H1 Q
/-- a new dict -/
def EvD (te : TE) (σ : L2.St) (H : Hp) (kvs : List (Key × V)) : Prop := ∀ H1, Ex H H1 → ∀ Q : VK, (∀ p H2, H1 p = none → Ex H1 H2 → H2 p = some (.dK kvs) → Q (.ref p) H2) → te σ H1 Q
/-- a value with P -/
def Gv (te : TE) (σ : L2.St) (H : Hp) (P : V → Hp → Prop) : Prop := ∀ H1, Ex H H1 → ∀ Q : VK, (∀ v H2, Ex H1 H2 → P v H2 → Q v H2) → te σ H1 Q
section
variable {K : PySem.W.Frag} {σ : L2.St} {H H' : Hp} {ta tb te tx : TE} {t u : TT} {x y z v : V} {r : R2} {tr : TA}
theorem EvW.mono {xs : List V} (e : Ex H H') (h : EvW te σ H xs) : EvW te σ H' xs := fun H1 a Q q => h H1 (e.trans a) Q q
theorem EvU.mono {xs : List V} (e : Ex H H') (h : EvU te σ H xs) : EvU te σ H' xs := fun H1 a Q q => h H1 (e.trans a) Q q
theorem Gv.mono {P : V → Hp → Prop} (e : Ex H H') (h : Gv te σ H P) : Gv te σ H' P := fun H1 a Q q => h H1 (e.trans a) Q q
theorem ew_of {xs : List V} (h : EvU te σ H xs) : EvW te σ H xs := fun H1 e Q q => h H1 e Q fun p H2 _ e2 hp => q p H2 e2 hp
theorem ew_ev {xs : List V} {p : Addr} (h : Ev te σ H (.ref p)) (hp : H p = some (.tup xs)) : EvW te σ H xs := fun H1 e Q q => h H1 e Q fun H2 e2 => q p H2 e2 ((e.trans e2) _ _ hp)
theorem eq_w {xs : List V} (h : EvW te σ H xs) : EvQ K te σ H xs := fun H1 e Q q => h H1 e Q fun p H2 e2 hp => q p H2 e2 (st_of hp)
theorem eq_ev {xs : List V} {p : Addr} (h : Ev te σ H (.ref p)) (hp : SqT K H p xs) : EvQ K te σ H xs := fun H1 e Q q => h H1 e Q fun H2 e2 => q p H2 e2 (ex_t (e.trans e2) hp)
theorem gv_ev (h : Ev te σ H v) : Gv te σ H (fun w _ => w = v) := fun H1 e Q q => h H1 e Q fun H2 e2 => q v H2 e2 rfl
theorem gv_L {xs : List V} (h : EvL te σ H xs) : Gv te σ H (fun w H2 => ∃ p, w = .ref p ∧ H2 p = some (.lst xs)) := fun H1 e Q q => h H1 e Q fun p H2 _ e2 hp => q _ H2 e2 ⟨p, rfl, hp⟩
theorem gv_W {xs : List V} (h : EvW te σ H xs) : Gv te σ H (fun w H2 => ∃ p, w = .ref p ∧ H2 p = some (.tup xs)) := fun H1 e Q q => h H1 e Q fun p H2 e2 hp => q _ H2 e2 ⟨p, rfl, hp⟩
theorem ev_gv (h : Gv te σ H (fun w _ => w = v)) : Ev te σ H v := fun H1 e Q q => h H1 e Q fun w H2 e2 hw => by
  subst hw
  exact q H2 e2
theorem ew_gv {xs : List V} (h : Gv te σ H (fun w H2 => ∃ p, w = .ref p ∧ H2 p = some (.tup xs))) : EvW te σ H xs := fun H1 e Q q => h H1 e Q fun w H2 e2 hw => by
  obtain ⟨p, rfl, hp⟩ := hw
  exact q p H2 e2 hp
theorem Gv.imp {P P' : V → Hp → Prop} (h : Gv te σ H P) (i : ∀ v H1, Ex H H1 → P v H1 → P' v H1) : Gv te σ H P' := fun H1 e Q q => h H1 e Q fun v H2 e2 hv => q v H2 e2 (i v H2 (e.trans e2) hv)
/-- f(..), told by spR -/
theorem gv_call {Pre : List V → Hp → Prop} {Post : List V → V → Hp → Prop} {vs : List V} {E : XK} (h : EvA tr σ H vs) (hp : ∀ H1, Ex H H1 → Pre vs H1) : Gv (tCall (spR Pre Post) [] E tr) σ H (Post vs) := fun H1 e Q q => by
  refine h H1 e _ fun H2 e2 => ?_
  rw [List.append_nil]
  exact ⟨hp H2 (e.trans e2), fun v H' e3 hv => q v H' (e2.trans e3) hv⟩
/-- one argument that is made on the way -/
theorem gv_call1 {Pre : List V → Hp → Prop} {Post : List V → V → Hp → Prop} {P P' : V → Hp → Prop} {E : XK} (h : Gv te σ H P) (hp : ∀ v H1, Ex H H1 → P v H1 → Pre [v] H1 ∧ ∀ w H2, Ex H1 H2 → Post [v] w H2 → P' w H2) :
    Gv (tCall (spR Pre Post) [] E (tCons te tNil)) σ H P' := fun H1 e Q q => by
  refine h H1 e _ fun v H2 e2 hv => ?_
  obtain ⟨a, b⟩ := hp v H2 (e.trans e2) hv
  exact ⟨a, fun w H3 e3 hw => q w H3 (e2.trans e3) (b w H3 e3 hw)⟩
/-! ### the rules with the written part named -/
theorem ixT {X : Cx} {K : PySem.W.Frag} (e : X.K = K) : IxR X (rIxT K) := by
  subst e
  exact ix_tup
theorem ixL {X : Cx} {K : PySem.W.Frag} (e : X.K = K) : IxR X (rIxL K) := by
  subst e
  exact ix_list
theorem crIsi {X : Cx} {K : PySem.W.Frag} (e : X.K = K) : CallR X (.builtin "isinstance") (rIsi K) := by
  subst e
  exact call_isi
theorem crLen {X : Cx} {K : PySem.W.Frag} (e : X.K = K) : CallR X (.builtin "len") (rLenS K) := by
  subst e
  exact call_len_seq
theorem crAll {X : Cx} {K : PySem.W.Frag} (e : X.K = K) (hc : X.calm = true) : CallR X (.builtin "all") (rAll K) := by
  subst e
  exact cr_all hc
def rTupS (K : PySem.W.Frag) : List V → Hp → VK → Prop := fun xs H Q => ∃ p ys, xs = [.ref p] ∧ ((SqL K H p ys ∧ ∀ l, H l = none → Q (.ref l) (upd H l (.tup ys))) ∨ (SqT K H p ys ∧ Q (.ref p) H))
theorem crTup {X : Cx} {K : PySem.W.Frag} (e : X.K = K) : CallR X (.type "tuple") (rTupS K) := by
  subst e
  exact call_tuple_of
def rTupF (K : PySem.W.Frag) : List V → Hp → VK → Prop := fun xs H Q => ∃ p ys, xs = [.ref p] ∧ SqL K H p ys ∧ ∀ l o, H l = none → o.dict = none → Q (.ref l) (upd H l (.frz o (.tup ys)))
theorem crTupF {X : Cx} {K : PySem.W.Frag} (e : X.K = K) : CallR X (.type "tuple") (rTupF K) := by
  subst e
  exact call_tupF
def rDictT (K : PySem.W.Frag) : List V → Hp → VK → Prop := fun xs H Q => ∃ (a : Addr) (o : Obj) (ps : List Addr) (kvs : List (Key × V)), xs = [.ref a] ∧ H a = some (.frz o (.tup (ps.map V.ref))) ∧ o.dict = none ∧
    Paired (fun p kv => SqT K H p [kV kv.1, kv.2]) ps kvs ∧ ∀ p, H p = none → Q (.ref p) (upd H p (.dK (mergeK [] kvs)))
theorem crDictT {X : Cx} {K : PySem.W.Frag} (e : X.K = K) (hc : X.calm = true) : CallR X (.type "dict") (rDictT K) := by
  subst e
  exact call_dictT hc
def rDictL (K : PySem.W.Frag) : List V → Hp → VK → Prop := fun xs H Q => ∃ (a : Addr) (ps : List Addr) (kvs : List (Key × V)), xs = [.ref a] ∧ SqL K H a (ps.map V.ref) ∧
    Paired (fun p kv => SqT K H p [kV kv.1, kv.2]) ps kvs ∧ ∀ p, H p = none → Q (.ref p) (upd H p (.dK (mergeK [] kvs)))
theorem crDictL {X : Cx} {K : PySem.W.Frag} (e : X.K = K) (hc : X.calm = true) : CallR X (.type "dict") (rDictL K) := by
  subst e
  exact call_dictP hc
theorem opInS {X : Cx} {K : PySem.W.Frag} (e : X.K = K) : OpR X (compareOp .In) (rIn K false) := by
  subst e
  exact op_in_seq
theorem opNotInS {X : Cx} {K : PySem.W.Frag} (e : X.K = K) : OpR X (compareOp .NotIn) (rIn K true) := by
  subst e
  exact op_notIn_seq
theorem piTup {X : Cx} {K : PySem.W.Frag} {tg l : Expr} {tl : TE} (e : X.K = K) (h : PE X l tl) : PI X tg l (iTup K tl) := by
  subst e
  exact pi_tup h
theorem piLst {X : Cx} {K : PySem.W.Frag} {tg l : Expr} {tl : TE} (e : X.K = K) (h : PE X l tl) : PI X tg l (iList K tl) := by
  subst e
  exact pi_list h
theorem slT {X : Cx} {K : PySem.W.Frag} (e : X.K = K) : SlR X (rSlT K) := by
  subst e
  exact sl_tup
theorem slL {X : Cx} {K : PySem.W.Frag} (e : X.K = K) : SlR X (rSlL K) := by
  subst e
  exact sl_list
/-! ### tests and built-ins -/
theorem ev_callB {Pre : List V → Hp → Prop} {vs : List V} {E : XK} (h : EvA tr σ H vs) (hp : ∀ H1, Ex H H1 → Pre vs H1) : Ev (tCall (spR Pre fun _ v _ => v = .bl true) [] E tr) σ H (.bl true) := ev_gv (gv_call h hp)
theorem ev_callN {Pre : List V → Hp → Prop} {vs : List V} {E : XK} (h : EvA tr σ H vs) (hp : ∀ H1, Ex H H1 → Pre vs H1) : Ev (tCall (spR Pre fun _ v _ => v = .non) [] E tr) σ H .non := ev_gv (gv_call h hp)
theorem ev_isi {w : V} {tt uu : Value} {b : Bool} (ha : Ev ta σ H x) (hb : Ev tb σ H w) (k : ClsV w uu) (ty : ∀ H1, Ex H H1 → TyX K H1 x tt) (e : PySem.W.kitOne K tt uu = some b) :
    Ev (tCB (rIsi K) (tCons ta (tCons tb tNil))) σ H (.bl b) := fun H1 a Q q => by
  refine ha H1 a _ fun H2 e2 => ?_
  refine hb H2 (a.trans e2) _ fun H3 e3 => ?_
  exact ⟨x, w, tt, uu, b, rfl, k, ty H3 ((a.trans e2).trans e3), e, q H3 (e2.trans e3)⟩
theorem ev_lenS {w : Str} (ha : Ev ta σ H (.str w)) (hl : w.length ≤ 100000) : Ev (tCB (fun xs H Q => ∃ z : Str, xs = [.str z] ∧ z.length ≤ sizeLine ∧ Q (.int z.length) H) (tCons ta tNil)) σ H (.int (w.length : Int)) := fun H1 e Q q => by
  refine ha H1 e _ fun H2 e2 => ?_
  exact ⟨w, rfl, sz_of hl, q H2 e2⟩
theorem ev_lenT {p : Addr} {xs : List V} (ha : Ev ta σ H (.ref p)) (h : SqT K H p xs) : Ev (tCB (rLenS K) (tCons ta tNil)) σ H (.int (xs.length : Int)) := fun H1 e Q q => by
  refine ha H1 e _ fun H2 e2 => ?_
  exact ⟨p, xs, rfl, Or.inr (ex_t (e.trans e2) h), q H2 e2⟩
theorem ev_all {n : Nat} {bs : List Bool} {xs : List V} (ha : EvL ta σ H xs) (hx : xs = bs.map V.bl) (hb : bs.all id = true) : Ev (tCB (rAll K) (tCons ta tNil)) σ H (.bl true) := fun H1 e Q q => by
  refine ha H1 e _ fun p H2 _ e2 hp => ?_
  refine ⟨p, bs, rfl, sq_of (by rw [← hx]; exact hp), ?_⟩
  rw [hb]
  exact q H2 e2
theorem eu_tupOf {xs : List V} (ha : EvL ta σ H xs) : EvU (tCB (rTupS K) (tCons ta tNil)) σ H xs := fun H1 e Q q => by
  refine ha H1 e _ fun p H2 hp0 e2 hp => ?_
  exact ⟨p, xs, rfl, Or.inl ⟨sq_of hp, fun l hl => q l _ (fresh_back e2 hl) (e2.trans (Ex.new hl)) upd_same⟩⟩
theorem ev_add {i j : Int} (ha : Ev ta σ H (.int i)) (hb : Ev tb σ H (.int j)) : Ev (tOp (rI0 fun i j => .int (i + j)) ta tb) σ H (.int (i + j)) := ev_op ha hb rv_I0
theorem ev_sub {i j : Int} (ha : Ev ta σ H (.int i)) (hb : Ev tb σ H (.int j)) : Ev (tOp (rI0 fun i j => .int (i - j)) ta tb) σ H (.int (i - j)) := ev_op ha hb rv_I0
theorem ev_ltV {i j : Int} (ha : Ev ta σ H (.int i)) (hb : Ev tb σ H (.int j)) : Ev (tOp (rI0 fun i j => .bl (decide (i < j))) ta tb) σ H (.bl (decide (i < j))) := ev_op ha hb rv_I0
theorem ev_leV {i j : Int} (ha : Ev ta σ H (.int i)) (hb : Ev tb σ H (.int j)) : Ev (tOp (rI0 fun i j => .bl (decide (i ≤ j))) ta tb) σ H (.bl (decide (i ≤ j))) := ev_op ha hb rv_I0
theorem ev_gtV {i j : Int} (ha : Ev ta σ H (.int i)) (hb : Ev tb σ H (.int j)) : Ev (tOp (rI0 fun i j => .bl (decide (j < i))) ta tb) σ H (.bl (decide (j < i))) := ev_op ha hb rv_I0
theorem ev_geV {i j : Int} (ha : Ev ta σ H (.int i)) (hb : Ev tb σ H (.int j)) : Ev (tOp (rI0 fun i j => .bl (decide (j ≤ i))) ta tb) σ H (.bl (decide (j ≤ i))) := ev_op ha hb rv_I0
theorem ev_ltI {i j : Int} : RV rLtA (.int i) (.int j) H (.bl (decide (i < j))) := fun H1 _ _ q => Or.inl ⟨i, j, rfl, rfl, q H1 (Ex.refl H1)⟩
theorem ev_ltS {i j : Str} : RV rLtA (.str i) (.str j) H (.bl (decide (i.cps.toList < j.cps.toList))) := fun H1 _ _ q => Or.inr ⟨i, j, rfl, rfl, q H1 (Ex.refl H1)⟩
def rInC : R2 := fun x y H Q => ∃ (c : Nat) (z : Str), x = .str ⟨#[c]⟩ ∧ y = .str z ∧ Q (.bl (decide (c ∈ z.cps.toList))) H
theorem rv_inC {c : Nat} {w : Str} : RV rInC (.str ⟨#[c]⟩) (.str w) H (.bl (decide (c ∈ w.cps.toList))) := fun H1 _ _ q => ⟨c, w, rfl, rfl, q H1 (Ex.refl H1)⟩
/-! ### comprehensions over tuples, texts, ranges -/
theorem el_lcT {xs : List V} {tl : TE} {j : Nat} {vs : List Nat} (f : Nat → Bool) (v : Nat → V) (h : EvQ K tl σ H xs) (hz : xs.length ≤ 40000) (hw : ∀ x, wipe ((wipe σ vs).set j (some x)) vs = wipe σ vs)
    (ht : ∀ (i : Nat) (x : V) H1, Ex H H1 → xs[i]? = some x → EvT t ((wipe σ vs).set j (some x)) H1 (f i)) (he : ∀ (i : Nat) (x : V) H1, Ex H H1 → xs[i]? = some x → f i = true → Ev te ((wipe σ vs).set j (some x)) H1 (v i)) :
    EvL (tLc (iTup K tl) (gName j) t te vs) σ H (given xs.length f v) := fun H0 e Q q => by
  refine h H0 e _ fun a H1 e1 hx' => ?_
  refine ⟨a, rfl, ⟨xs, hx'⟩, fun Dl hD => ?_⟩
  refine lc_tup (xs := xs) (Cw H1 f v Dl) ⟨hD, Ex.new hD, upd_same⟩ (fun i H' _ p => ex_t p.2.1 hx') (fun i x H' hi p => ?_) fun H' p => q Dl H' (fresh_back e1 p.1) (e1.trans p.2.1) p.2.2
  exact ⟨hw x, cw_turn p (by have := (List.getElem?_eq_some_iff.mp hi).1; omega) (ht i x H1 (e.trans e1) hi) fun hf => he i x H1 (e.trans e1) hi hf⟩
theorem el_lcS {z : Str} {tl : TE} {j : Nat} {vs : List Nat} (f : Nat → Bool) (v : Nat → V) (h : Ev tl σ H (.str z)) (hz : z.cps.size ≤ 40000) (hw : ∀ x, wipe ((wipe σ vs).set j (some x)) vs = wipe σ vs)
    (ht : ∀ (i : Nat) (c : Nat) H1, Ex H H1 → z.cps[i]? = some c → EvT t ((wipe σ vs).set j (some (.str ⟨#[c]⟩))) H1 (f i)) (he : ∀ (i : Nat) (c : Nat) H1, Ex H H1 → z.cps[i]? = some c → f i = true → Ev te ((wipe σ vs).set j (some (.str ⟨#[c]⟩))) H1 (v i)) :
    EvL (tLc (iStr tl) (gName j) t te vs) σ H (given z.cps.size f v) := fun H0 e Q q => by
  refine h H0 e _ fun H1 e1 => ?_
  refine ⟨z, rfl, fun Dl hD => ?_⟩
  refine ⟨fun i m H' => m = z.cps.size - i ∧ i ≤ z.cps.size ∧ Cw H1 f v Dl i H', ⟨z.cps.size, by simp, Nat.zero_le _, hD, Ex.new hD, upd_same⟩, ?_⟩
  rintro i m H' ⟨rfl, hi, p⟩
  by_cases hlt : i < z.cps.size
  · refine Or.inr ⟨hlt, Cw H1 f v Dl (i + 1), fun H2 p' => ⟨z.cps.size - (i + 1), by omega, rfl, hlt, p'⟩, fun x H2 y => ?_⟩
    obtain ⟨rfl, c, hc, rfl⟩ := y
    exact ⟨hw _, cw_turn p (by omega) (ht i c H1 (e.trans e1) hc) fun hf => he i c H1 (e.trans e1) hc hf⟩
  · have ei : i = z.cps.size := by omega
    subst ei
    exact Or.inl ⟨Nat.le_refl _, q Dl H' (fresh_back e1 p.1) (e1.trans p.2.1) p.2.2⟩
theorem et_yes : EvT tYes σ H true := fun H1 _ _ q => q H1 (Ex.refl H1)
/-! ### given, as lists -/
theorem given_all (n : Nat) (v : Nat → V) : given n (fun _ => true) v = (List.range n).map v := by
  unfold given
  congr 1
  exact List.filter_eq_self.mpr fun _ _ => rfl
theorem map_range_getD {α β : Type} (d : α) (g : α → β) : ∀ xs : List α, (List.range xs.length).map (fun i => g (xs.getD i d)) = xs.map g
  | [] => rfl
  | x :: r => by
    rw [List.length_cons, List.range_succ_eq_map, List.map_cons, List.map_map]
    show g x :: _ = g x :: _
    congr 1
    have ih := map_range_getD d g r
    rw [← ih]
    rfl
theorem given_map {α : Type} (d : α) (g : α → V) (xs : List α) : given xs.length (fun _ => true) (fun i => g (xs.getD i d)) = xs.map g := by
  rw [given_all, map_range_getD]
theorem given_filter {α : Type} (d : α) (p : α → Bool) (g : α → V) : ∀ xs : List α, given xs.length (fun i => p (xs.getD i d)) (fun i => g (xs.getD i d)) = (xs.filter p).map g := by
  intro xs
  unfold given
  have h : ((List.range xs.length).filter fun i => p (xs.getD i d)).map (fun i => xs.getD i d) = xs.filter p := by
    rw [show (fun i => p (xs.getD i d)) = p ∘ (fun i => xs.getD i d) from rfl, ← List.filter_map, map_range_getD d (fun x => x) xs, List.map_id']
  rw [← h, List.map_map]
  rfl
theorem given_true {n : Nat} {bs : List Bool} (h : bs = List.replicate n true) : given n (fun _ => true) (fun _ => V.bl true) = bs.map V.bl := by
  rw [given_all, h, List.map_replicate]
  exact List.map_const' .. |>.trans (by rw [List.length_range])
/-- all of a comprehension whose elements are all true -/
theorem ev_allT {n : Nat} (ha : EvL ta σ H (given n (fun _ => true) (fun _ => V.bl true))) : Ev (tCB (rAll K) (tCons ta tNil)) σ H (.bl true) :=
  ev_all (n := n) (bs := List.replicate n true) ha (given_true rfl) (by simp)
/-! ### statements with Gv -/
variable {D : Ends} {tz : TS}
theorem q_asgG {i : Nat} {P : V → Hp → Prop} (h : Gv te σ H P) (k : ∀ v H1, Ex H H1 → P v H1 → tz D (σ.set i (some v)) H1) : tSeq (tAsg te (gName i)) tz D σ H := h H (Ex.refl H) _ fun v H1 e hv => k v H1 e hv
theorem q_asgD {i : Nat} {kvs : List (Key × V)} (h : EvD te σ H kvs) (k : ∀ p H1, H p = none → Ex H H1 → H1 p = some (.dK kvs) → tz D (σ.set i (some (.ref p))) H1) : tSeq (tAsg te (gName i)) tz D σ H := h H (Ex.refl H) _ fun p H1 hn e hp => k p H1 hn e hp
theorem s_retG {P : V → Hp → Prop} (h : Gv te σ H P) (k : ∀ v H1, Ex H H1 → P v H1 → D.rt v H1) : tRet te D σ H := h H (Ex.refl H) _ fun v H1 e hv => k v H1 e hv
theorem q_dropG {P : V → Hp → Prop} (h : Gv te σ H P) (k : ∀ v H1, Ex H H1 → P v H1 → tz D σ H1) : tSeq (tDrop te) tz D σ H := h H (Ex.refl H) _ fun v H1 e hv => k v H1 e hv
/-- a for over a tuple that stands: Pv by the turn; the body leaves all that is tracked -/
theorem q_forQ {xs : List V} {g : TG} {tb : TS} (h : EvQ K te σ H xs) (Pv : Nat → L2.St → Hp → Prop) (h0 : ∀ H1, Ex H H1 → Pv 0 σ H1)
    (hs : ∀ (i : Nat) (x : V) (σ' : L2.St) (H1 H' : Hp) (N : L2.St → Hp → Prop), Ex H H1 → xs[i]? = some x → Ex H1 H' → Pv i σ' H' → (∀ σ3 H3, Ex H' H3 → Pv (i + 1) σ3 H3 → N σ3 H3) → g x σ' H' fun σ2 H2 => tb { D with nx := N, ct := N, bk := tz D } σ2 H2)
    (hd : ∀ σ' H', Ex H H' → Pv xs.length σ' H' → tz D σ' H') : tSeq (tFor (iTup K te) g tb) tz D σ H := by
  refine h H (Ex.refl H) _ fun a H1 e1 hx => ?_
  refine ⟨a, rfl, ⟨xs, hx⟩, ?_⟩
  refine for_tup (xs := xs) (D := { D with nx := tz D }) (fun i σ' H' => Ex H1 H' ∧ Pv i σ' H') ⟨Ex.refl H1, h0 H1 e1⟩ (fun i σ' H' _ p => ex_t p.1 hx) (fun i x σ' H' hi p => ?_) fun σ' H' p => hd σ' H' (e1.trans p.1) p.2
  exact hs i x σ' H1 H' (fun σ3 H3 => Ex H1 H3 ∧ Pv (i + 1) σ3 H3) e1 hi p.1 p.2 fun σ3 H3 e3 p3 => ⟨p.1.trans e3, p3⟩
/-! ### more statements -/
theorem q_par {i j : Nat} {v w : V} {ta : TA} (h : EvA ta σ H [v, w]) (k : ∀ H1, Ex H H1 → tz D ((σ.set i (some v)).set j (some w)) H1) : tSeq (tPar i j ta) tz D σ H := h H (Ex.refl H) _ fun H1 e => ⟨v, w, rfl, k H1 e⟩
theorem s_par {i j : Nat} {v w : V} {ta : TA} (h : EvA ta σ H [v, w]) (k : ∀ H1, Ex H H1 → D.nx ((σ.set i (some v)).set j (some w)) H1) : tPar i j ta D σ H := h H (Ex.refl H) _ fun H1 e => ⟨v, w, rfl, k H1 e⟩
theorem q_dput {td ty tv : TE} {a : Addr} {k : Key} {v : V} (hv : Ev tv σ H v) (hd : Ev td σ H (.ref a)) (hk : Ev ty σ H (kV k)) (kk : ∀ H1, Ex H H1 → ∃ kvs, H1 a = some (.dK kvs) ∧ kvs.length < sizeLine ∧ tz D σ (upd H1 a (.dK (putK kvs k v)))) :
    tSeq (sDPut td ty tv) tz D σ H := by
  refine hv H (Ex.refl H) _ fun H1 e1 => ?_
  refine hd H1 e1 _ fun H2 e2 => ?_
  refine hk H2 (e1.trans e2) _ fun H3 e3 => ?_
  obtain ⟨kvs, h1, h2, h3⟩ := kk H3 ((e1.trans e2).trans e3)
  exact ⟨a, _, rfl, DPut.k h1 h2, h3⟩
/-- a list that may be read -/
def EvQL (K : PySem.W.Frag) (te : TE) (σ : L2.St) (H : Hp) (xs : List V) : Prop := ∀ H1, Ex H H1 → ∀ Q : VK, (∀ p H2, Ex H1 H2 → SqL K H2 p xs → Q (.ref p) H2) → te σ H1 Q
theorem eql_of {xs : List V} (h : EvL te σ H xs) : EvQL K te σ H xs := fun H1 e Q q => h H1 e Q fun p H2 _ e2 hp => q p H2 e2 (sq_of hp)
theorem eql_ev {xs : List V} {p : Addr} (h : Ev te σ H (.ref p)) (hp : SqL K H p xs) : EvQL K te σ H xs := fun H1 e Q q => h H1 e Q fun H2 e2 => q p H2 e2 (ex_l (e.trans e2) hp)
theorem q_forQL {xs : List V} {g : TG} {tb : TS} (h : EvQL K te σ H xs) (Pv : Nat → L2.St → Hp → Prop) (h0 : ∀ H1, Ex H H1 → Pv 0 σ H1)
    (hs : ∀ (i : Nat) (x : V) (σ' : L2.St) (H1 H' : Hp) (N : L2.St → Hp → Prop), Ex H H1 → xs[i]? = some x → Ex H1 H' → Pv i σ' H' → (∀ σ3 H3, Ex H' H3 → Pv (i + 1) σ3 H3 → N σ3 H3) → g x σ' H' fun σ2 H2 => tb { D with nx := N, ct := N, bk := tz D } σ2 H2)
    (hd : ∀ σ' H', Ex H H' → Pv xs.length σ' H' → tz D σ' H') : tSeq (tFor (iList K te) g tb) tz D σ H := by
  refine h H (Ex.refl H) _ fun a H1 e1 hx => ?_
  refine ⟨a, rfl, ⟨xs, hx⟩, ?_⟩
  refine for_list (xs := xs) (D := { D with nx := tz D }) (fun i σ' H' => Ex H1 H' ∧ Pv i σ' H') ⟨Ex.refl H1, h0 H1 e1⟩ (fun i σ' H' _ p => ex_l p.1 hx) (fun i x σ' H' hi p => ?_) fun σ' H' p => hd σ' H' (e1.trans p.1) p.2
  exact hs i x σ' H1 H' (fun σ3 H3 => Ex H1 H3 ∧ Pv (i + 1) σ3 H3) e1 hi p.1 p.2 fun σ3 H3 e3 p3 => ⟨p.1.trans e3, p3⟩
end
end N56
namespace N56
open PySem PySem.Spec PyProof.Rows L2
/-! ### the text -/
def topS (i : Nat) : Stmt := PySem.Challenge.pw_noringgains_k56_family_calendars_by_comm.main.body.getD i (.Pass ⟨0, 0, 0, 0⟩)
abbrev s_is_name : Stmt := topS 12
abbrev N_is_name : List Str := ["thing", "sign"]
theorem sc_is_name : FnScope N_is_name ["thing"] (defScope s_is_name) := ⟨rfl, rfl, rfl, by decide +kernel, rfl, by decide +kernel, by decide +kernel⟩

abbrev s_is_rising : Stmt := topS 13
abbrev N_is_rising : List Str := ["items", "k"]
theorem sc_is_rising : FnScope N_is_rising ["items"] (defScope s_is_rising) := ⟨rfl, rfl, rfl, by decide +kernel, rfl, by decide +kernel, by decide +kernel⟩

abbrev s_is_currencies : Stmt := topS 14
abbrev N_is_currencies : List Str := ["thing", "item"]
theorem sc_is_currencies : FnScope N_is_currencies ["thing"] (defScope s_is_currencies) := ⟨rfl, rfl, rfl, by decide +kernel, rfl, by decide +kernel, by decide +kernel⟩

abbrev s_is_number : Stmt := topS 16
abbrev N_is_number : List Str := ["value"]
theorem sc_is_number : FnScope N_is_number ["value"] (defScope s_is_number) := ⟨rfl, rfl, rfl, by decide +kernel, rfl, by decide +kernel, by decide +kernel⟩

abbrev s_is_day : Stmt := topS 18
abbrev N_is_day : List Str := ["thing"]
theorem sc_is_day : FnScope N_is_day ["thing"] (defScope s_is_day) := ⟨rfl, rfl, rfl, by decide +kernel, rfl, by decide +kernel, by decide +kernel⟩

abbrev s_is_row : Stmt := topS 19
abbrev N_is_row : List Str := ["thing", "day"]
theorem sc_is_row : FnScope N_is_row ["thing"] (defScope s_is_row) := ⟨rfl, rfl, rfl, by decide +kernel, rfl, by decide +kernel, by decide +kernel⟩

abbrev s_is_calendar : Stmt := topS 20
abbrev N_is_calendar : List Str := ["thing", "row"]
theorem sc_is_calendar : FnScope N_is_calendar ["thing"] (defScope s_is_calendar) := ⟨rfl, rfl, rfl, by decide +kernel, rfl, by decide +kernel, by decide +kernel⟩

abbrev s_check_days : Stmt := topS 21
abbrev N_check_days : List Str := ["calendar", "currencies", "name"]
theorem sc_check_days : FnScope N_check_days ["calendar", "currencies"] (defScope s_check_days) := ⟨rfl, rfl, rfl, by decide +kernel, rfl, by decide +kernel, by decide +kernel⟩

abbrev s_common_days : Stmt := topS 22
abbrev N_common_days : List Str := ["calendar", "currencies", "rows", "found", "name", "known", "day"]
theorem sc_common_days : FnScope N_common_days ["calendar", "currencies"] (defScope s_common_days) := ⟨rfl, rfl, rfl, by decide +kernel, rfl, by decide +kernel, by decide +kernel⟩

abbrev s_open_days : Stmt := topS 23
abbrev N_open_days : List Str := ["calendar", "currencies"]
theorem sc_open_days : FnScope N_open_days ["calendar", "currencies"] (defScope s_open_days) := ⟨rfl, rfl, rfl, by decide +kernel, rfl, by decide +kernel, by decide +kernel⟩

abbrev s_day_of : Stmt := topS 24
abbrev N_day_of : List Str := ["calendar", "currencies", "day", "late", "lag", "first", "found", "other"]
theorem sc_day_of : FnScope N_day_of ["calendar", "currencies", "day", "late", "lag"] (defScope s_day_of) := ⟨rfl, rfl, rfl, by decide +kernel, rfl, by decide +kernel, by decide +kernel⟩

abbrev s_check_lag : Stmt := topS 25
abbrev N_check_lag : List Str := ["lag"]
theorem sc_check_lag : FnScope N_check_lag ["lag"] (defScope s_check_lag) := ⟨rfl, rfl, rfl, by decide +kernel, rfl, by decide +kernel, by decide +kernel⟩

abbrev s_settles : Stmt := topS 26
abbrev N_settles : List Str := ["calendar", "currencies", "day", "late", "lag"]
theorem sc_settles : FnScope N_settles ["calendar", "currencies", "day", "late", "lag"] (defScope s_settles) := ⟨rfl, rfl, rfl, by decide +kernel, rfl, by decide +kernel, by decide +kernel⟩

abbrev s_latest : Stmt := topS 27
abbrev N_latest : List Str := ["calendar", "currencies", "day", "lag", "found", "other"]
theorem sc_latest : FnScope N_latest ["calendar", "currencies", "day", "lag"] (defScope s_latest) := ⟨rfl, rfl, rfl, by decide +kernel, rfl, by decide +kernel, by decide +kernel⟩

abbrev s_closed : Stmt := topS 28
abbrev N_closed : List Str := ["calendar", "currency", "day", "rows", "name", "days", "other"]
theorem sc_closed : FnScope N_closed ["calendar", "currency", "day"] (defScope s_closed) := ⟨rfl, rfl, rfl, by decide +kernel, rfl, by decide +kernel, by decide +kernel⟩

abbrev s__law_begun : Stmt := topS 30
abbrev N__law_begun : List Str := ["script", "large", "cell"]
theorem sc__law_begun : FnScope N__law_begun ["script"] (defScope s__law_begun) := ⟨rfl, rfl, rfl, by decide +kernel, rfl, by decide +kernel, by decide +kernel⟩

abbrev s__law_blend : Stmt := topS 31
abbrev N__law_blend : List Str := ["draw", "laps", "found", "prime", "stirred", "cell"]
theorem sc__law_blend : FnScope N__law_blend ["draw"] (defScope s__law_blend) := ⟨rfl, rfl, rfl, by decide +kernel, rfl, by decide +kernel, by decide +kernel⟩

abbrev s__law_take : Stmt := topS 32
abbrev N__law_take : List Str := ["draw", "size", "found"]
theorem sc__law_take : FnScope N__law_take ["draw", "size"] (defScope s__law_take) := ⟨rfl, rfl, rfl, by decide +kernel, rfl, by decide +kernel, by decide +kernel⟩

abbrev s__law_pick : Stmt := topS 33
abbrev N__law_pick : List Str := ["draw", "some"]
theorem sc__law_pick : FnScope N__law_pick ["draw", "some"] (defScope s__law_pick) := ⟨rfl, rfl, rfl, by decide +kernel, rfl, by decide +kernel, by decide +kernel⟩

abbrev s__law_shuffled : Stmt := topS 34
abbrev N__law_shuffled : List Str := ["draw", "some", "left", "found"]
theorem sc__law_shuffled : FnScope N__law_shuffled ["draw", "some"] (defScope s__law_shuffled) := ⟨rfl, rfl, rfl, by decide +kernel, rfl, by decide +kernel, by decide +kernel⟩

abbrev s__law_same : Stmt := topS 35
abbrev N__law_same : List Str := ["one", "right"]
theorem sc__law_same : FnScope N__law_same ["one", "right"] (defScope s__law_same) := ⟨rfl, rfl, rfl, by decide +kernel, rfl, by decide +kernel, by decide +kernel⟩

abbrev s__law_caught : Stmt := topS 36
abbrev N__law_caught : List Str := ["work", "caught", "problem"]
theorem sc__law_caught : FnScope N__law_caught ["work"] (defScope s__law_caught) := ⟨rfl, rfl, rfl, by decide +kernel, rfl, by decide +kernel, by decide +kernel⟩

abbrev s__law_names : Stmt := topS 37
abbrev N__law_names : List Str := ["draw", "many", "pool"]
theorem sc__law_names : FnScope N__law_names ["draw", "many"] (defScope s__law_names) := ⟨rfl, rfl, rfl, by decide +kernel, rfl, by decide +kernel, by decide +kernel⟩

abbrev s__law_common : Stmt := topS 38
abbrev N__law_common : List Str := ["rows", "first", "step", "other", "more", "found", "lap", "day", "one", "two"]
theorem sc__law_common : FnScope N__law_common ["rows"] (defScope s__law_common) := ⟨rfl, rfl, rfl, by decide +kernel, rfl, by decide +kernel, by decide +kernel⟩

abbrev s_law : Stmt := topS 39
abbrev N_law : List Str := ["script", "draw", "turn", "names", "rows", "name", "calendar", "some", "told", "days", "lap", "day", "late", "lag", "due", "back", "start", "count", "index", "more", "again", "own", "gone", "less"]
theorem sc_law : FnScope N_law ["script"] (defScope s_law) := ⟨rfl, rfl, rfl, by decide +kernel, rfl, by decide +kernel, by decide +kernel⟩

/-! ### what the top has left -/
abbrev keptL : List Str := ["cannot", "done", "none", "nothing", "row", "what"]
abbrev lettersS : Str := "abcdefghijklmnopqrstuvwxyz"
structure Tx (K : PySem.W.Frag) (mg : Str → Option Value) (aK : Addr) (tL : Tok) : Prop where
  len : mg "len" = none
  isinstance : mg "isinstance" = none
  all : mg "all" = none
  tuple : mg "tuple" = none
  dict : mg "dict" = none
  range : mg "range" = none
  int : mg "int" = none
  str : mg "str" = none
  bool : mg "bool" = none
  list : mg "list" = none
  abs : mg "abs" = none
  min : mg "min" = none
  max : mg "max" = none
  repr : mg "repr" = none
  sorted : mg "sorted" = none
  g_KEPT : mg "KEPT" = some (.ref aK)
  g_LETTERS : mg "LETTERS" = some (.str lettersS tL)
  k_KEPT : ∃ (o : Obj) (its : Array Value) (n : Nat), K.lookup aK = some o ∧ o.cls = .type "tuple" ∧ o.data = .seq its n ∧ its.size ≤ sizeLine ∧ Vals (keptL.map V.str) its.toList
theorem Tx.r_KEPT {K : PySem.W.Frag} {mg : Str → Option Value} {aK : Addr} {tL : Tok} (_ : Tx K mg aK tL) : RelV (.ref aK) (.ref aK) := rfl
theorem Tx.r_LETTERS {K : PySem.W.Frag} {mg : Str → Option Value} {aK : Addr} {tL : Tok} (_ : Tx K mg aK tL) : RelV (.str lettersS) (.str lettersS tL) := ⟨tL, rfl⟩
theorem Tx.s_KEPT {K : PySem.W.Frag} {mg : Str → Option Value} {aK : Addr} {tL : Tok} (T : Tx K mg aK tL) (H : Hp) : SqT K H aK (keptL.map V.str) := Or.inr T.k_KEPT
end N56
namespace N56
open PySem PySem.Spec PyProof.Rows L2 Evl
/-- a def that answers True where Pre holds -/
abbrev spB (Pre : List V → Hp → Prop) : Sp := spR Pre (fun _ v _ => v = .bl true)
/-- a good name -/
structure GoodN (x : Str) : Prop where
  l1 : 1 ≤ x.length
  l8 : x.length ≤ 8
  nk : inV (.str x) (keptL.map V.str) = false
  le : ∀ c ∈ x.cps.toList, c ∈ lettersS.cps.toList
def PreName : List V → Hp → Prop := fun vs _ => ∃ x, vs = [.str x] ∧ GoodN x
/-- ascending texts -/
abbrev AscS (l : List Str) : Prop := l.Pairwise fun x y => x.cps.toList < y.cps.toList
def PreRise : List V → Hp → Prop := fun vs H => ∃ a, vs = [.ref a] ∧ ((∃ ns : List Int, H a = some (.tup (ns.map V.int)) ∧ K56.Asc ns ∧ 1 ≤ ns.length ∧ ns.length ≤ 1000) ∨ ∃ zs : List Str, H a = some (.tup (zs.map V.str)) ∧ AscS zs ∧ 1 ≤ zs.length ∧ zs.length ≤ 1000)
structure GoodCur (zs : List Str) : Prop where
  l1 : 1 ≤ zs.length
  l4 : zs.length ≤ 4
  nm : ∀ z ∈ zs, GoodN z
  asc : AscS zs
def PreCurr : List V → Hp → Prop := fun vs H => ∃ a zs, vs = [.ref a] ∧ H a = some (.tup (zs.map V.str)) ∧ GoodCur zs
def PreNum : List V → Hp → Prop := fun vs _ => ∃ i, vs = [.int i]
def PreDay : List V → Hp → Prop := fun vs _ => ∃ i, vs = [.int i] ∧ 0 ≤ i ∧ i ≤ 400
structure GoodDays (ns : List Int) : Prop where
  l1 : 1 ≤ ns.length
  l1000 : ns.length ≤ 1000
  asc : K56.Asc ns
  rng : ∀ d ∈ ns, 0 ≤ d ∧ d ≤ 400
def RowAt (H : Hp) (p q : Addr) (r : Str × List Int) : Prop := H p = some (.tup [.str r.1, .ref q]) ∧ H q = some (.tup (r.2.map V.int))
def PreRow : List V → Hp → Prop := fun vs H => ∃ p q r, vs = [.ref p] ∧ RowAt H p q r ∧ GoodN r.1 ∧ GoodDays r.2
/-- a calendar at a -/
structure CalH (H : Hp) (a : Addr) (rows : List (Str × List Int)) : Prop where
  ex : ∃ (b : Addr) (o : Obj) (ps qs : List Addr), H a = some (.tup [.str "calendar", .ref b]) ∧ H b = some (.frz o (.tup (ps.map V.ref))) ∧ o.dict = none ∧ ps.length = rows.length ∧ qs.length = rows.length ∧
    ∀ (i : Nat) (p q : Addr) (r : Str × List Int), ps[i]? = some p → qs[i]? = some q → rows[i]? = some r → RowAt H p q r
structure GoodCal (rows : List (Str × List Int)) : Prop where
  cur : GoodCur (rows.map (·.1))
  days : ∀ r ∈ rows, GoodDays r.2
def PreCal : List V → Hp → Prop := fun vs H => ∃ a rows, vs = [.ref a] ∧ CalH H a rows ∧ GoodCal rows
theorem RowAt.ex {H H' : Hp} {p q : Addr} {r : Str × List Int} (e : Ex H H') (h : RowAt H p q r) : RowAt H' p q r := ⟨e _ _ h.1, e _ _ h.2⟩
theorem CalH.mono {H H' : Hp} {a : Addr} {rows : List (Str × List Int)} (e : Ex H H') (h : CalH H a rows) : CalH H' a rows := by
  obtain ⟨b, o, ps, qs, h1, h2, h3, h4, h5, h6⟩ := h.ex
  exact ⟨b, o, ps, qs, e _ _ h1, e _ _ h2, h3, h4, h5, fun i p q r a b c => (h6 i p q r a b c).ex e⟩
theorem get_of {α : Type} {l : List α} {n i : Nat} (hl : l.length = n) (hi : i < n) : ∃ x, l[i]? = some x := ⟨l[i], List.getElem?_eq_getElem (by omega)⟩
theorem map_at {α β : Type} {g : α → β} {l : List α} {i : Nat} {y : β} (h : (l.map g)[i]? = some y) : ∃ x, l[i]? = some x ∧ y = g x := by
  rw [List.getElem?_map] at h
  cases e : l[i]? with
  | none =>
    rw [e] at h
    cases h
  | some x =>
    rw [e] at h
    exact ⟨x, rfl, (Option.some.inj h).symm⟩
theorem asc_at {α : Type} {R : α → α → Prop} {l : List α} (h : l.Pairwise R) {i : Nat} {x y : α} (hx : l[i]? = some x) (hy : l[i + 1]? = some y) : R x y := by
  obtain ⟨h1, rfl⟩ := List.getElem?_eq_some_iff.mp hx
  obtain ⟨h2, rfl⟩ := List.getElem?_eq_some_iff.mp hy
  exact List.pairwise_iff_getElem.mp h i (i + 1) h1 h2 (by omega)
section
variable {P : Program} {w : World} {K : PySem.W.Frag} {mg : Str → Option Value} {base : Heap} {f : Addr} {fd : FuncData} {aK : Addr} {tL : Tok}
theorem ok_is_name (F : Fun K "is_name" "is_name" s_is_name f fd) (T : Tx K mg aK tL) : FnOk P w K mg base CX0 1 f fd ["thing"] (spB PreName) := by
  refine F.ok sc_is_name (fun vs H Q E h => ?_) (fun cdv A outer s H vs Q E hr h => ?_)
  · obtain ⟨⟨x, rfl, _⟩, _⟩ := h
    rfl
  · obtain ⟨⟨x, rfl, g⟩, q⟩ := h
    have hu := hu_of hr
    refine ⟨_, (pss_cons (ps_if (PW.pt (pw_or (pt_not (pt_val (pe_callB (crIsi (K := K) rfl) (by rfl) T.isinstance (by decide +kernel) (pa_cons (pv 0) (pa_cons (pe_bltn (v := .ty "str") (by rfl) T.str (by decide +kernel) rfl) pa_nil))))) (pw_or (pt_cmpR op_lt (pe_callB call_len_str (by rfl) T.len (by decide +kernel) (pa_cons (pv 0) pa_nil)) pe_int (nomark _)) (pw_or (pt_cmpR op_gt (pe_callB call_len_str (by rfl) T.len (by decide +kernel) (pa_cons (pv 0) pa_nil)) pe_int (nomark _)) (pw_or1 (pt_cmpR (opInS (K := K) rfl) (pv 0) (pe_glob (by rfl) T.g_KEPT T.r_KEPT) (by rfl)))))))
        (pss_one (ps_ret pe_bl))
        pss_nil)
      (pss_one (ps_ret (pe_callB (crAll (K := K) rfl rfl) (by rfl) T.all (by decide +kernel) (pa_cons (pe_lc (own := [("sign", 1)]) rfl sc_is_name.nd (pi_str (pv 0)) (blkOk_by (own := [("sign", 1)]) (N := N_is_name) (sc := defScope s_is_name) (by decide +kernel)) (fun _ _ _ _ _ => (pg_name (i := 1) sc_is_name.nd rfl (Or.inl rfl))) (fun _ _ _ _ _ => pts_nil) (fun _ _ _ _ _ => (pe_cmpR op_in_sign (pv 1) (pe_glob (by rfl) T.g_LETTERS T.r_LETTERS) (by rfl)))) pa_nil))))), ?_⟩
    have g1 := g.l1
    have g8 := g.l8
    refine q_when (b := false) (et_is (et_or (et_not (et_B (ev_isi (ev_var rfl) ev_c (ClsV.ty _) (fun _ _ => .base (.str x)) (kit_ty (b := "str") (r := true) (by decide +kernel))))) fun _ =>
      et_or (et_test (ev_op (ev_lenS (ev_var rfl) (by omega)) ev_c rv_I0)) fun _ => et_or (et_test (ev_op (ev_lenS (ev_var rfl) (by omega)) ev_c rv_I0)) fun _ =>
      et_test (ev_op (ev_var rfl) ev_c (rv_isT (T.s_KEPT _) rfl (by decide)))) ?_) (fun z => by cases z) (fun _ H1 e1 => ?_)
    · rw [g.nk, decide_eq_false (by omega), decide_eq_false (by omega)]
      rfl
    · refine s_ret (v := .bl true) (ev_allT (el_lcS (fun _ => true) (fun _ => .bl true) (ev_var rfl) (by have : x.cps.size ≤ 8 := g8; omega) (fun _ => rfl) (fun _ _ _ _ _ => et_yes)
        (fun i c H2 e2 hc _ => ev_is (ev_op (ev_var rfl) ev_c rv_inC) ?_))) (fun H2 e2 => q _ _ (e1.trans e2) rfl)
      have hm : c ∈ x.cps.toList := by
        rw [← Array.getElem?_toList] at hc
        exact List.mem_of_getElem? hc
      rw [decide_eq_true (g.le c hm)]
theorem ok_is_rising (F : Fun K "is_rising" "is_rising" s_is_rising f fd) (T : Tx K mg aK tL) : FnOk P w K mg base CX0 1 f fd ["items"] (spB PreRise) := by
  refine F.ok sc_is_rising (fun vs H Q E h => ?_) (fun cdv A outer s H vs Q E hr h => ?_)
  · obtain ⟨⟨a, rfl, _⟩, _⟩ := h
    rfl
  · obtain ⟨⟨a, rfl, g⟩, q⟩ := h
    have hu := hu_of hr
    refine ⟨_, (pss_one (ps_ret (pe_callB (crAll (K := K) rfl rfl) (by rfl) T.all (by decide +kernel) (pa_cons (pe_lc (own := [("k", 1)]) rfl sc_is_rising.nd (pi_range1 (by rfl) T.range (pa_cons (pe_op op_sub (pe_callB (crLen (K := K) rfl) (by rfl) T.len (by decide +kernel) (pa_cons (pv 0) pa_nil)) pe_int) pa_nil)) (blkOk_by (own := [("k", 1)]) (N := N_is_rising) (sc := defScope s_is_rising) (by decide +kernel)) (fun _ _ _ _ _ => (pg_name (i := 1) sc_is_rising.nd rfl (Or.inl rfl))) (fun _ _ _ _ _ => pts_nil) (fun _ _ _ _ _ => (pe_cmpR op_ltA (pe_ix (ixT (K := K) rfl) (pv 0) (pv 1) (fun _ _ => rfl)) (pe_ix (ixT (K := K) rfl) (pv 0) (pe_op op_add (pv 1) pe_int) (fun _ _ => rfl)) (nomark _)))) pa_nil)))), ?_⟩
    suffices key : ∃ xs : List V, H a = some (.tup xs) ∧ 1 ≤ xs.length ∧ xs.length ≤ 1000 ∧ ∀ (i : Nat) x y, xs[i]? = some x → xs[i + 1]? = some y → ∀ H1, RV rLtA x y H1 (.bl true) by
      obtain ⟨xs, ha, h1, h2, hlt⟩ := key
      refine s_ret (v := .bl true) (ev_allT (el_lcR1 (n := (xs.length : Int) - 1) (fun _ => true) (fun _ => .bl true) (ea_cons (ev_op (ev_lenT (ev_var rfl) (st_of ha)) ev_c rv_I0) ea_nil) (by omega) (fun _ => rfl) (fun _ _ _ _ => et_yes)
        (fun i H2 e2 hi _ => ?_))) (fun H2 e2 => q _ _ e2 rfl)
      obtain ⟨x, hx⟩ := get_of (i := i) (l := xs) rfl (by omega)
      obtain ⟨y, hy⟩ := get_of (i := i + 1) (l := xs) rfl (by omega)
      exact ev_op (ev_op (ev_var rfl) (ev_var rfl) (rv_ixT (ex_t e2 (st_of ha)) (at_of rfl hx))) (ev_op (ev_var rfl) (ev_add (ev_var rfl) ev_c) (rv_ixT (i := (i : Int) + 1) (ex_t e2 (st_of ha)) (at_of (j := i + 1) rfl hy))) (hlt i x y hx hy _)
    rcases g with ⟨ns, ha, hs, h1, h2⟩ | ⟨zs, ha, hs, h1, h2⟩
    · refine ⟨_, ha, by rw [List.length_map]; exact h1, by rw [List.length_map]; exact h2, fun i x y hx hy H1 => ?_⟩
      obtain ⟨n, e1, rfl⟩ := map_at hx
      obtain ⟨m, e2, rfl⟩ := map_at hy
      have hlt := asc_at hs e1 e2
      have := ev_ltI (H := H1) (i := n) (j := m)
      rw [decide_eq_true hlt] at this
      exact this
    · refine ⟨_, ha, by rw [List.length_map]; exact h1, by rw [List.length_map]; exact h2, fun i x y hx hy H1 => ?_⟩
      obtain ⟨n, e1, rfl⟩ := map_at hx
      obtain ⟨m, e2, rfl⟩ := map_at hy
      have hlt := asc_at hs e1 e2
      have := ev_ltS (H := H1) (i := n) (j := m)
      rw [decide_eq_true hlt] at this
      exact this
theorem ok_is_currencies (F : Fun K "is_currencies" "is_currencies" s_is_currencies f fd) (T : Tx K mg aK tL) (c_is_name : Cal P w K mg base CX0 1 "is_name" ["thing"] (spB PreName)) (c_is_rising : Cal P w K mg base CX0 1 "is_rising" ["items"] (spB PreRise)) :
    FnOk P w K mg base CX0 2 f fd ["thing"] (spB PreCurr) := by
  refine F.ok sc_is_currencies (fun vs H Q E h => ?_) (fun cdv A outer s H vs Q E hr h => ?_)
  · obtain ⟨⟨a, zs, rfl, _⟩, _⟩ := h
    rfl
  · obtain ⟨⟨a, zs, rfl, ha, g⟩, q⟩ := h
    have hu := hu_of hr
    refine ⟨_, (pss_cons (ps_if (PW.pt (pw_or (pt_not (pt_val (pe_callB (crIsi (K := K) rfl) (by rfl) T.isinstance (by decide +kernel) (pa_cons (pv 0) (pa_cons (pe_bltn (v := .ty "tuple") (by rfl) T.tuple (by decide +kernel) rfl) pa_nil))))) (pw_or (pt_cmpR op_lt (pe_callB (crLen (K := K) rfl) (by rfl) T.len (by decide +kernel) (pa_cons (pv 0) pa_nil)) pe_int (nomark _)) (pw_or1 (pt_cmpR op_gt (pe_callB (crLen (K := K) rfl) (by rfl) T.len (by decide +kernel) (pa_cons (pv 0) pa_nil)) pe_int (nomark _))))))
        (pss_one (ps_ret pe_bl))
        pss_nil)
      (pss_one (ps_ret (pe_and (pe_callB (crAll (K := K) rfl rfl) (by rfl) T.all (by decide +kernel) (pa_cons (pe_lc (own := [("item", 1)]) rfl sc_is_currencies.nd (piTup (K := K) rfl (pv 0)) (blkOk_by (own := [("item", 1)]) (N := N_is_currencies) (sc := defScope s_is_currencies) (by decide +kernel)) (fun _ _ _ _ _ => (pg_name (i := 1) sc_is_currencies.nd rfl (Or.inl rfl))) (fun _ _ _ _ _ => pts_nil) (fun _ _ _ _ _ => (pe_cl c_is_name hr (by decide) (by rfl) (pa_cons (pv 1) pa_nil)))) pa_nil)) (pe_one (pe_cl c_is_rising hr (by decide) (by rfl) (pa_cons (pv 0) pa_nil))))))), ?_⟩
    have g1 := g.l1
    have g4 := g.l4
    have hl : (zs.map V.str).length = zs.length := List.length_map ..
    refine q_when (b := false) (et_is (et_or (et_not (et_B (ev_isi (ev_var rfl) ev_c (ClsV.ty _) (fun H1 e1 => .base (.tup (e1 _ _ ha))) (kit_ty (b := "tuple") (r := true) (by decide +kernel))))) fun _ =>
      et_or (et_test (ev_op (ev_lenT (ev_var rfl) (st_of ha)) ev_c rv_I0)) fun _ => et_test (ev_op (ev_lenT (ev_var rfl) (st_of ha)) ev_c rv_I0)) ?_) (fun z => by cases z) (fun _ H1 e1 => ?_)
    · rw [hl, decide_eq_false (by omega), decide_eq_false (by omega)]
      rfl
    · refine s_ret (v := .bl true) (ev_is (ev_andV (a := true) (b := true) (ev_allT (el_lcT (fun _ => true) (fun _ => .bl true) (eq_ev (ev_var rfl) (st_of (e1 _ _ ha))) (by rw [hl]; omega) (fun _ => rfl) (fun _ _ _ _ _ => et_yes)
        (fun i x H2 e2 hx _ => ?_))) fun _ => ev_callB (ea_cons (ev_var rfl) ea_nil) fun H2 e2 => ⟨a, rfl, Or.inr ⟨zs, (e1.trans e2) _ _ ha, g.asc, g1, by omega⟩⟩) rfl) (fun H2 e2 => q _ _ (e1.trans e2) rfl)
      obtain ⟨z, hz, rfl⟩ := map_at hx
      exact ev_callB (ea_cons (ev_var rfl) ea_nil) fun H3 _ => ⟨z, rfl, g.nm z (List.mem_of_getElem? hz)⟩
theorem ok_is_number (F : Fun K "is_number" "is_number" s_is_number f fd) (T : Tx K mg aK tL) : FnOk P w K mg base CX0 1 f fd ["value"] (spB PreNum) := by
  refine F.ok sc_is_number (fun vs H Q E h => ?_) (fun cdv A outer s H vs Q E hr h => ?_)
  · obtain ⟨⟨i, rfl⟩, _⟩ := h
    rfl
  · obtain ⟨⟨i, rfl⟩, q⟩ := h
    have hu := hu_of hr
    refine ⟨_, (pss_one (ps_ret (pe_and (pe_callB (crIsi (K := K) rfl) (by rfl) T.isinstance (by decide +kernel) (pa_cons (pv 0) (pa_cons (pe_bltn (v := .ty "int") (by rfl) T.int (by decide +kernel) rfl) pa_nil))) (pe_one (pe_not (pe_callB (crIsi (K := K) rfl) (by rfl) T.isinstance (by decide +kernel) (pa_cons (pv 0) (pa_cons (pe_bltn (v := .ty "bool") (by rfl) T.bool (by decide +kernel) rfl) pa_nil)))))))), ?_⟩
    exact s_ret (v := .bl true) (ev_is (ev_andV (a := true) (b := true) (ev_isi (ev_var rfl) ev_c (ClsV.ty _) (fun _ _ => .base (.int i)) (kit_ty (b := "int") (r := true) (by decide +kernel))) fun _ =>
      ev_is (ev_notV (a := false) (ev_isi (ev_var rfl) ev_c (ClsV.ty _) (fun _ _ => .base (.int i)) (kit_ty (b := "bool") (r := false) (by decide +kernel)))) rfl) rfl) (fun H2 e2 => q _ _ e2 rfl)
theorem ok_is_day (F : Fun K "is_day" "is_day" s_is_day f fd) (T : Tx K mg aK tL) (c_is_number : Cal P w K mg base CX0 1 "is_number" ["value"] (spB PreNum)) : FnOk P w K mg base CX0 2 f fd ["thing"] (spB PreDay) := by
  refine F.ok sc_is_day (fun vs H Q E h => ?_) (fun cdv A outer s H vs Q E hr h => ?_)
  · obtain ⟨⟨i, rfl, _⟩, _⟩ := h
    rfl
  · obtain ⟨⟨i, rfl, h0, h4⟩, q⟩ := h
    have hu := hu_of hr
    refine ⟨_, (pss_one (ps_ret (pe_and (pe_cl c_is_number hr (by decide) (by rfl) (pa_cons (pv 0) pa_nil)) (pe_and (pe_cmpR op_ge (pv 0) pe_int (nomark _)) (pe_one (pe_cmpR op_le (pv 0) pe_int (nomark _))))))), ?_⟩
    refine s_ret (v := .bl true) (ev_is (ev_andV (a := true) (b := true) (ev_callB (ea_cons (ev_var rfl) ea_nil) fun _ _ => ⟨i, rfl⟩) fun _ =>
      ev_is (ev_andV (a := true) (b := true) (ev_is (ev_op (ev_var rfl) ev_c rv_I0) ?_) fun _ => ev_is (ev_op (ev_var rfl) ev_c rv_I0) ?_) rfl) rfl) (fun H2 e2 => q _ _ e2 rfl)
    · rw [decide_eq_true h0]
    · rw [decide_eq_true h4]
theorem ok_is_row (F : Fun K "is_row" "is_row" s_is_row f fd) (T : Tx K mg aK tL) (c_is_name : Cal P w K mg base CX0 1 "is_name" ["thing"] (spB PreName)) (c_is_rising : Cal P w K mg base CX0 1 "is_rising" ["items"] (spB PreRise))
    (c_is_day : Cal P w K mg base CX0 2 "is_day" ["thing"] (spB PreDay)) : FnOk P w K mg base CX0 3 f fd ["thing"] (spB PreRow) := by
  refine F.ok sc_is_row (fun vs H Q E h => ?_) (fun cdv A outer s H vs Q E hr h => ?_)
  · obtain ⟨⟨p, q, r, rfl, _⟩, _⟩ := h
    rfl
  · obtain ⟨⟨p, qd, r, rfl, ⟨hp, hq⟩, gn, gd⟩, q⟩ := h
    have hu := hu_of hr
    refine ⟨_, (pss_cons (ps_if (PW.pt (pw_or (pt_not (pt_val (pe_callB (crIsi (K := K) rfl) (by rfl) T.isinstance (by decide +kernel) (pa_cons (pv 0) (pa_cons (pe_bltn (v := .ty "tuple") (by rfl) T.tuple (by decide +kernel) rfl) pa_nil))))) (pw_or (pt_cmpR op_ne (pe_callB (crLen (K := K) rfl) (by rfl) T.len (by decide +kernel) (pa_cons (pv 0) pa_nil)) pe_int (nomark _)) (pw_or (pt_not (pt_val (pe_cl c_is_name hr (by decide) (by rfl) (pa_cons (pe_ix (ixT (K := K) rfl) (pv 0) pe_int (fun _ _ => rfl)) pa_nil)))) (pw_or1 (pt_not (pt_val (pe_callB (crIsi (K := K) rfl) (by rfl) T.isinstance (by decide +kernel) (pa_cons (pe_ix (ixT (K := K) rfl) (pv 0) pe_int (fun _ _ => rfl)) (pa_cons (pe_bltn (v := .ty "tuple") (by rfl) T.tuple (by decide +kernel) rfl) pa_nil))))))))))
        (pss_one (ps_ret pe_bl))
        pss_nil)
      (pss_one (ps_ret (pe_and (pe_callB (crAll (K := K) rfl rfl) (by rfl) T.all (by decide +kernel) (pa_cons (pe_lc (own := [("day", 1)]) rfl sc_is_row.nd (piTup (K := K) rfl (pe_ix (ixT (K := K) rfl) (pv 0) pe_int (fun _ _ => rfl))) (blkOk_by (own := [("day", 1)]) (N := N_is_row) (sc := defScope s_is_row) (by decide +kernel)) (fun _ _ _ _ _ => (pg_name (i := 1) sc_is_row.nd rfl (Or.inl rfl))) (fun _ _ _ _ _ => pts_nil) (fun _ _ _ _ _ => (pe_cl c_is_day hr (by decide) (by rfl) (pa_cons (pv 1) pa_nil)))) pa_nil)) (pe_one (pe_cl c_is_rising hr (by decide) (by rfl) (pa_cons (pe_ix (ixT (K := K) rfl) (pv 0) pe_int (fun _ _ => rfl)) pa_nil))))))), ?_⟩
    have ix1 : ∀ {σ : L2.St} {H1 : Hp}, σ[0]? = some (some (.ref p)) → Ex H H1 → Ev (tOp (rIxT K) (tVar 0) (tC (.int 1))) σ H1 (.ref qd) := fun hs e => ev_op (ev_var hs) ev_c (rv_ixT (st_of (e _ _ hp)) (at_of (j := 1) rfl rfl))
    have ix0 : ∀ {σ : L2.St} {H1 : Hp}, σ[0]? = some (some (.ref p)) → Ex H H1 → Ev (tOp (rIxT K) (tVar 0) (tC (.int 0))) σ H1 (.str r.1) := fun hs e => ev_op (ev_var hs) ev_c (rv_ixT (st_of (e _ _ hp)) (at_of (j := 0) rfl rfl))
    refine q_when (b := false) (et_is (et_or (et_not (et_B (ev_isi (ev_var rfl) ev_c (ClsV.ty _) (fun H1 e1 => .base (.tup (e1 _ _ hp))) (kit_ty (b := "tuple") (r := true) (by decide +kernel))))) fun _ =>
      et_or (et_test (ev_op (ev_lenT (ev_var rfl) (st_of hp)) ev_c (rv_ne rfl))) fun _ => et_or (et_not (et_B (ev_callB (ea_cons (ix0 rfl (Ex.refl H)) ea_nil) fun _ _ => ⟨r.1, rfl, gn⟩))) fun _ =>
      et_not (et_B (ev_isi (ix1 rfl (Ex.refl H)) ev_c (ClsV.ty _) (fun H1 e1 => .base (.tup (e1 _ _ hq))) (kit_ty (b := "tuple") (r := true) (by decide +kernel))))) rfl) (fun z => by cases z) (fun _ H1 e1 => ?_)
    have hl : (r.2.map V.int).length = r.2.length := List.length_map ..
    have := gd.l1000
    refine s_ret (v := .bl true) (ev_is (ev_andV (a := true) (b := true) (ev_allT (el_lcT (fun _ => true) (fun _ => .bl true) (eq_ev (ix1 rfl e1) (st_of (e1 _ _ hq))) (by rw [hl]; omega) (fun _ => rfl) (fun _ _ _ _ _ => et_yes)
        (fun i x H2 e2 hx _ => ?_))) fun _ => ev_callB (ea_cons (ix1 rfl e1) ea_nil) fun H2 e2 => ⟨qd, rfl, Or.inl ⟨r.2, (e1.trans e2) _ _ hq, gd.asc, gd.l1, gd.l1000⟩⟩) rfl) (fun H2 e2 => q _ _ (e1.trans e2) rfl)
    obtain ⟨z, hz, rfl⟩ := map_at hx
    exact ev_callB (ea_cons (ev_var rfl) ea_nil) fun H3 _ => ⟨z, rfl, gd.rng z (List.mem_of_getElem? hz)⟩
theorem ok_is_calendar (F : Fun K "is_calendar" "is_calendar" s_is_calendar f fd) (T : Tx K mg aK tL) (c_is_row : Cal P w K mg base CX0 3 "is_row" ["thing"] (spB PreRow)) (c_is_currencies : Cal P w K mg base CX0 2 "is_currencies" ["thing"] (spB PreCurr)) :
    FnOk P w K mg base CX0 4 f fd ["thing"] (spB PreCal) := by
  refine F.ok sc_is_calendar (fun vs H Q E h => ?_) (fun cdv A outer s H vs Q E hr h => ?_)
  · obtain ⟨⟨a, rows, rfl, _⟩, _⟩ := h
    rfl
  · obtain ⟨⟨a, rows, rfl, hc, gc⟩, q⟩ := h
    have hu := hu_of hr
    refine ⟨_, (pss_cons (ps_if (PW.pt (pw_or (pt_not (pt_val (pe_callB (crIsi (K := K) rfl) (by rfl) T.isinstance (by decide +kernel) (pa_cons (pv 0) (pa_cons (pe_bltn (v := .ty "tuple") (by rfl) T.tuple (by decide +kernel) rfl) pa_nil))))) (pw_or (pt_cmpR op_ne (pe_callB (crLen (K := K) rfl) (by rfl) T.len (by decide +kernel) (pa_cons (pv 0) pa_nil)) pe_int (nomark _)) (pw_or (pt_cmpR op_ne (pe_ix (ixT (K := K) rfl) (pv 0) pe_int (fun _ _ => rfl)) pe_str (nomark _)) (pw_or1 (pt_not (pt_val (pe_callB (crIsi (K := K) rfl) (by rfl) T.isinstance (by decide +kernel) (pa_cons (pe_ix (ixT (K := K) rfl) (pv 0) pe_int (fun _ _ => rfl)) (pa_cons (pe_bltn (v := .ty "tuple") (by rfl) T.tuple (by decide +kernel) rfl) pa_nil))))))))))
        (pss_one (ps_ret pe_bl))
        pss_nil)
      (pss_cons (ps_if (pt_not (pt_val (pe_callB (crAll (K := K) rfl rfl) (by rfl) T.all (by decide +kernel) (pa_cons (pe_lc (own := [("row", 1)]) rfl sc_is_calendar.nd (piTup (K := K) rfl (pe_ix (ixT (K := K) rfl) (pv 0) pe_int (fun _ _ => rfl))) (blkOk_by (own := [("row", 1)]) (N := N_is_calendar) (sc := defScope s_is_calendar) (by decide +kernel)) (fun _ _ _ _ _ => (pg_name (i := 1) sc_is_calendar.nd rfl (Or.inl rfl))) (fun _ _ _ _ _ => pts_nil) (fun _ _ _ _ _ => (pe_cl c_is_row hr (by decide) (by rfl) (pa_cons (pv 1) pa_nil)))) pa_nil))))
        (pss_one (ps_ret pe_bl))
        pss_nil)
      (pss_one (ps_ret (pe_cl c_is_currencies hr (by decide) (by rfl) (pa_cons (pe_callTy (crTup (K := K) rfl) (by rfl) T.tuple (by decide +kernel) (pa_cons (pe_lc (own := [("row", 1)]) rfl sc_is_calendar.nd (piTup (K := K) rfl (pe_ix (ixT (K := K) rfl) (pv 0) pe_int (fun _ _ => rfl))) (blkOk_by (own := [("row", 1)]) (N := N_is_calendar) (sc := defScope s_is_calendar) (by decide +kernel)) (fun _ _ _ _ _ => (pg_name (i := 1) sc_is_calendar.nd rfl (Or.inl rfl))) (fun _ _ _ _ _ => pts_nil) (fun _ _ _ _ _ => (pe_ix (ixT (K := K) rfl) (pv 1) pe_int (fun _ _ => rfl)))) pa_nil)) pa_nil)))))), ?_⟩
    obtain ⟨b, o, ps, qs, ha, hb, hod, lp, lq, hat⟩ := hc.ex
    have ix1 : ∀ {σ : L2.St} {H1 : Hp}, σ[0]? = some (some (.ref a)) → Ex H H1 → Ev (tOp (rIxT K) (tVar 0) (tC (.int 1))) σ H1 (.ref b) := fun hs e => ev_op (ev_var hs) ev_c (rv_ixT (st_of (e _ _ ha)) (at_of (j := 1) rfl rfl))
    have ix0 : ∀ {σ : L2.St} {H1 : Hp}, σ[0]? = some (some (.ref a)) → Ex H H1 → Ev (tOp (rIxT K) (tVar 0) (tC (.int 0))) σ H1 (.str "calendar") := fun hs e => ev_op (ev_var hs) ev_c (rv_ixT (st_of (e _ _ ha)) (at_of (j := 0) rfl rfl))
    have sb : ∀ {H1 : Hp}, Ex H H1 → SqT K H1 b (ps.map V.ref) := fun e => Or.inl (Or.inr ⟨o, e _ _ hb⟩)
    have l4 := gc.cur.l4
    rw [List.length_map] at l4
    have hl : (ps.map V.ref).length = rows.length := by rw [List.length_map, lp]
    refine q_when (b := false) (et_is (et_or (et_not (et_B (ev_isi (ev_var rfl) ev_c (ClsV.ty _) (fun H1 e1 => .base (.tup (e1 _ _ ha))) (kit_ty (b := "tuple") (r := true) (by decide +kernel))))) fun _ =>
      et_or (et_test (ev_op (ev_lenT (ev_var rfl) (st_of ha)) ev_c (rv_ne rfl))) fun _ => et_or (et_test (ev_op (ix0 rfl (Ex.refl H)) ev_c (rv_ne rfl))) fun _ =>
      et_not (et_B (ev_isi (ix1 rfl (Ex.refl H)) ev_c (ClsV.ty _) (fun H1 e1 => .fTuple (e1 _ _ hb)) (kit_ty (b := "tuple") (r := true) (by decide +kernel))))) rfl) (fun z => by cases z) (fun _ H1 e1 => ?_)
    refine q_when (b := false) (et_is (et_not (et_B (ev_allT (el_lcT (fun _ => true) (fun _ => .bl true) (eq_ev (ix1 rfl e1) (sb e1)) (by rw [hl]; omega) (fun _ => rfl) (fun _ _ _ _ _ => et_yes)
        (fun i x H2 e2 hx _ => ?_))))) rfl) (fun z => by cases z) (fun _ H2 e2 => ?_)
    · obtain ⟨p, hp, rfl⟩ := map_at hx
      have hi : i < rows.length := by
        have := (List.getElem?_eq_some_iff.mp hp).1
        omega
      obtain ⟨qq, hqq⟩ := get_of lq hi
      obtain ⟨r, hr'⟩ := get_of (l := rows) rfl hi
      exact ev_callB (ea_cons (ev_var rfl) ea_nil) fun H3 e3 => ⟨p, qq, r, rfl, (hat i p qq r hp hqq hr').ex ((e1.trans e2).trans e3), gc.cur.nm r.1 (List.mem_map.mpr ⟨r, List.mem_of_getElem? hr', rfl⟩), gc.days r (List.mem_of_getElem? hr')⟩
    · have e12 := e1.trans e2
      have key : EvL (tLc (iTup K (tOp (rIxT K) (tVar 0) (tC (.int 1)))) (gName 1) tYes (tOp (rIxT K) (tVar 1) (tC (.int 0))) [1]) (start N_is_calendar [.ref a]) H2 (given rows.length (fun _ => true) fun i => .str ((rows.getD i ("", [])).1)) := by
        have z := el_lcT (K := K) (t := tYes) (j := 1) (vs := [1]) (σ := start N_is_calendar [.ref a]) (H := H2) (te := tOp (rIxT K) (tVar 1) (tC (.int 0))) (fun _ => true) (fun i => .str ((rows.getD i ("", [])).1)) (eq_ev (ix1 rfl e12) (sb e12)) (by rw [hl]; omega) (fun _ => rfl) (fun _ _ _ _ _ => et_yes) (fun i x H3 e3 hx _ => ?_)
        · rw [hl] at z
          exact z
        · obtain ⟨p, hp, rfl⟩ := map_at hx
          have hi : i < rows.length := by
            have := (List.getElem?_eq_some_iff.mp hp).1
            omega
          obtain ⟨qq, hqq⟩ := get_of lq hi
          obtain ⟨r, hr'⟩ := get_of (l := rows) rfl hi
          have er : rows.getD i ("", []) = r := by rw [List.getD_eq_getElem?_getD, hr']; rfl
          rw [er]
          exact ev_op (ev_var rfl) ev_c (rv_ixT (st_of ((e12.trans e3) _ _ (hat i p qq r hp hqq hr').1)) (at_of (j := 0) rfl rfl))
      rw [given_map (("" : Str), ([] : List Int)) (fun r : Str × List Int => V.str r.1) rows] at key
      have gm : rows.map (fun r : Str × List Int => V.str r.1) = (rows.map (·.1)).map V.str := by rw [List.map_map]; rfl
      rw [gm] at key
      refine s_retG (P := fun v _ => v = .bl true) (gv_call1 (gv_W (ew_of (eu_tupOf key))) fun v H3 e3 hv => ?_) (fun v H3 e3 hv => q _ _ (e12.trans e3) hv)
      obtain ⟨t, rfl, ht⟩ := hv
      exact ⟨⟨t, rows.map (·.1), rfl, ht, gc.cur⟩, fun w H4 _ hw => hw⟩
end
end N56
namespace N56
open PySem PySem.Spec PyProof.Rows L2 Evl
/-! ### dicts made of pairs -/
theorem valV_merge_not {k : Key} : ∀ {kvs acc : List (Key × V)}, k ∉ kvs.map (·.1) → valV (mergeK acc kvs) k = valV acc k
  | [], _, _ => rfl
  | p :: r, acc, h => by
    have h1 : k ≠ p.1 := fun e => h (by rw [e]; exact List.mem_cons_self)
    have h2 : k ∉ r.map (·.1) := fun e => h (List.mem_cons_of_mem _ e)
    show valV (mergeK (putK acc p.1 p.2) r) k = _
    rw [valV_merge_not h2, valV_put, if_neg h1]
theorem valV_merge_get {k : Key} {v : V} : ∀ {kvs acc : List (Key × V)} {i : Nat}, (kvs.map (·.1)).Nodup → kvs[i]? = some (k, v) → valV (mergeK acc kvs) k = some v
  | [], _, _, _, h => by simp at h
  | p :: r, acc, 0, hn, h => by
    have e : p = (k, v) := Option.some.inj h
    subst e
    have h2 : k ∉ r.map (·.1) := (List.nodup_cons.mp hn).1
    show valV (mergeK (putK acc k v) r) k = _
    rw [valV_merge_not h2, valV_put, if_pos rfl]
  | p :: r, acc, i + 1, hn, h => by
    show valV (mergeK (putK acc p.1 p.2) r) k = _
    exact valV_merge_get (List.nodup_cons.mp hn).2 (by simpa using h)
theorem isSome_merge {k : Key} : ∀ {kvs acc : List (Key × V)}, (valV (mergeK acc kvs) k).isSome = true ↔ (valV acc k).isSome = true ∨ k ∈ kvs.map (·.1)
  | [], acc => by
    show (valV acc k).isSome = true ↔ _
    simp
  | p :: r, acc => by
    show (valV (mergeK (putK acc p.1 p.2) r) k).isSome = true ↔ _
    rw [isSome_merge, valV_put]
    by_cases e : k = p.1
    · rw [if_pos e, List.map_cons, e]
      simp
    · rw [if_neg e, List.map_cons, List.mem_cons]
      constructor
      · rintro (h | h)
        · exact .inl h
        · exact .inr (.inr h)
      · rintro (h | h | h)
        · exact .inl h
        · exact absurd h e
        · exact .inr h
/-- the dict {n: True for n in ns} -/
def kdays (ns : List Int) : List (Key × V) := mergeK [] (ns.map fun n => ((Sum.inl n : Key), V.bl true))
theorem kdays_in (ns : List Int) (d : Int) : (valV (kdays ns) (Sum.inl d)).isSome = decide (d ∈ ns) := by
  have h := isSome_merge (k := Sum.inl d) (kvs := ns.map fun n => ((Sum.inl n : Key), V.bl true)) (acc := [])
  have h2 : (Sum.inl d : Key) ∈ (ns.map fun n => ((Sum.inl n : Key), V.bl true)).map (·.1) ↔ d ∈ ns := by
    rw [List.map_map]
    constructor
    · intro hm
      obtain ⟨n, hn, e⟩ := List.mem_map.mp hm
      have e' : (Sum.inl n : Key) = Sum.inl d := e
      cases e'
      exact hn
    · intro hm
      exact List.mem_map.mpr ⟨d, hm, rfl⟩
  rw [h2] at h
  have h3 : (valV ([] : List (Key × V)) (Sum.inl d : Key)).isSome = true ↔ False := by
    rw [valV_nil]
    simp
  rw [h3, false_or] at h
  unfold kdays
  cases e : (valV (mergeK [] (ns.map fun n => ((Sum.inl n : Key), V.bl true))) (Sum.inl d)).isSome with
  | true =>
    rw [e] at h
    rw [decide_eq_true (h.1 rfl)]
  | false =>
    rw [e] at h
    rw [decide_eq_false fun hd => by
      have := h.2 hd
      cases this]
theorem kdays_len (ns : List Int) : (kdays ns).length ≤ ns.length := by
  have := length_mergeK (ns.map fun n => ((Sum.inl n : Key), V.bl true)) []
  rw [List.length_map, List.length_nil, Nat.zero_add] at this
  exact this
theorem kdays_snoc (ns : List Int) (n : Int) : putK (kdays ns) (Sum.inl n) (V.bl true) = kdays (ns ++ [n]) := by
  unfold kdays mergeK
  rw [List.map_append, List.foldl_append]
  rfl
theorem paired_of {α β : Type} {F : α → β → Prop} : ∀ {xs : List α} {ys : List β}, xs.length = ys.length → (∀ (i : Nat) x y, xs[i]? = some x → ys[i]? = some y → F x y) → Paired F xs ys
  | [], [], _, _ => .nil
  | x :: xs, y :: ys, hl, h => .cons (h 0 x y rfl rfl) (paired_of (by simpa using hl) fun i a b ha hb => h (i + 1) a b (by simpa using ha) (by simpa using hb))
/-! ### the days of a name -/
def dz (rows : List (Str × List Int)) (z : Str) : List Int := ((rows.find? fun r => decide (r.1 = z)).map (·.2)).getD []
theorem dz_of : ∀ {rows : List (Str × List Int)} {r : Str × List Int}, (rows.map (·.1)).Nodup → r ∈ rows → dz rows r.1 = r.2
  | q :: rows, r, hn, h => by
    obtain ⟨h1, h2⟩ := List.nodup_cons.mp hn
    unfold dz
    by_cases e : q.1 = r.1
    · rw [List.find?_cons_of_pos (by simp [e])]
      rcases List.mem_cons.mp h with e2 | e2
      · rw [e2]
        rfl
      · exact absurd (List.mem_map.mpr ⟨r, e2, e.symm⟩) h1
    · rw [List.find?_cons_of_neg (by simp [e])]
      rcases List.mem_cons.mp h with e2 | e2
      · exact absurd (by rw [e2]) e
      · exact dz_of h2 e2
/-- names of the calendar -/
def Within (rows : List (Str × List Int)) (zs : List Str) : Prop := ∀ z ∈ zs, ∃ r ∈ rows, r.1 = z
def fl (rows : List (Str × List Int)) (l0 : List Int) (ys : List Str) : List Int := ys.foldl (fun l z => l.filter fun d => decide (d ∈ dz rows z)) l0
def cm (rows : List (Str × List Int)) : List Str → List Int
  | [] => []
  | z :: r => fl rows (dz rows z) r
theorem fl_snoc (rows : List (Str × List Int)) (l0 : List Int) (ys : List Str) (z : Str) : fl rows l0 (ys ++ [z]) = (fl rows l0 ys).filter fun d => decide (d ∈ dz rows z) := by
  unfold fl
  rw [List.foldl_append]
  rfl
theorem fl_len (rows : List (Str × List Int)) : ∀ (ys : List Str) (l0 : List Int), (fl rows l0 ys).length ≤ l0.length
  | [], l0 => Nat.le_refl _
  | z :: r, l0 => Nat.le_trans (fl_len rows r _) (List.length_filter_le _ _)
theorem fl_mem (rows : List (Str × List Int)) : ∀ (ys : List Str) (l0 : List Int) (d : Int), d ∈ fl rows l0 ys ↔ d ∈ l0 ∧ ∀ z ∈ ys, d ∈ dz rows z
  | [], l0, d => by
    show d ∈ l0 ↔ _
    simp
  | z :: r, l0, d => by
    show d ∈ fl rows (l0.filter fun d => decide (d ∈ dz rows z)) r ↔ _
    rw [fl_mem rows r, List.mem_filter, decide_eq_true_eq]
    constructor
    · rintro ⟨⟨a, b⟩, c⟩
      refine ⟨a, fun y hy => ?_⟩
      rcases List.mem_cons.mp hy with e | e
      · rw [e]
        exact b
      · exact c y e
    · rintro ⟨a, b⟩
      exact ⟨⟨a, b z List.mem_cons_self⟩, fun y hy => b y (List.mem_cons_of_mem _ hy)⟩
theorem fl_asc (rows : List (Str × List Int)) : ∀ (ys : List Str) (l0 : List Int), K56.Asc l0 → K56.Asc (fl rows l0 ys)
  | [], _, h => h
  | z :: r, l0, h => fl_asc rows r _ (h.filter _)
theorem cm_mem {rows : List (Str × List Int)} {zs : List Str} (h : zs ≠ []) (d : Int) : d ∈ cm rows zs ↔ ∀ z ∈ zs, d ∈ dz rows z := by
  cases zs with
  | nil => exact absurd rfl h
  | cons z r =>
    show d ∈ fl rows (dz rows z) r ↔ _
    rw [fl_mem]
    constructor
    · rintro ⟨a, b⟩ y hy
      rcases List.mem_cons.mp hy with e | e
      · rw [e]
        exact a
      · exact b y e
    · intro b
      exact ⟨b z List.mem_cons_self, fun y hy => b y (List.mem_cons_of_mem _ hy)⟩
theorem asc_nodup : ∀ {zs : List Str}, AscS zs → zs.Nodup := fun {zs} h => h.imp fun {a b} hab e => by
  subst e
  exact List.lt_irrefl _ hab
section
variable {K : PySem.W.Frag} {σ : L2.St} {H H' : Hp} {ta tb te tx td ty : TE} {t u : TT} {x y z v : V} {tr : TA}
/-! ### dicts read -/
theorem ev_dget {k : Key} {D : Addr} {kvs : List (Key × V)} (hd : Ev td σ H (.ref D)) (hk : Ev ty σ H (kV k)) (hD : H D = some (.dK kvs)) (hv : valV kvs k = some v) : Ev (tDGet td ty) σ H v := fun H1 e Q q => by
  refine hd H1 e _ fun H2 e2 => ?_
  refine hk H2 (e.trans e2) _ fun H3 e3 => ?_
  have g := DGet.k (k := k) (((e.trans e2).trans e3) _ _ hD)
  rw [hv] at g
  exact ⟨D, v, rfl, g, q H3 (e2.trans e3)⟩
theorem ed_dget {k : Key} {kvs : List (Key × V)} (hd : EvD td σ H kvs) (hk : Ev ty σ H (kV k)) (hv : valV kvs k = some v) : Ev (tDGet td ty) σ H v := fun H1 e Q q => by
  refine hd H1 e _ fun D H2 _ e2 hD => ?_
  refine hk H2 (e.trans e2) _ fun H3 e3 => ?_
  have g := DGet.k (k := k) (e3 _ _ hD)
  rw [hv] at g
  exact ⟨D, v, rfl, g, q H3 (e2.trans e3)⟩
theorem ev_din {k : Key} {D : Addr} {kvs : List (Key × V)} (hk : Ev ty σ H (kV k)) (hd : Ev td σ H (.ref D)) (hD : H D = some (.dK kvs)) : Ev (tDIn ty td) σ H (.bl (valV kvs k).isSome) := fun H1 e Q q => by
  refine hk H1 e _ fun H2 e2 => ?_
  refine hd H2 (e.trans e2) _ fun H3 e3 => ?_
  exact ⟨D, valV kvs k, rfl, DGet.k (((e.trans e2).trans e3) _ _ hD), q H3 (e2.trans e3)⟩
theorem ed_din {k : Key} {kvs : List (Key × V)} (hk : Ev ty σ H (kV k)) (hd : EvD td σ H kvs) : Ev (tDIn ty td) σ H (.bl (valV kvs k).isSome) := fun H1 e Q q => by
  refine hk H1 e _ fun H2 e2 => ?_
  refine hd H2 (e.trans e2) _ fun D H3 _ e3 hD => ?_
  exact ⟨D, valV kvs k, rfl, DGet.k hD, q H3 (e2.trans e3)⟩
theorem ed_dnotin {k : Key} {kvs : List (Key × V)} (hk : Ev ty σ H (kV k)) (hd : EvD td σ H kvs) : Ev (tDNotIn ty td) σ H (.bl (!(valV kvs k).isSome)) := fun H1 e Q q => by
  refine hk H1 e _ fun H2 e2 => ?_
  refine hd H2 (e.trans e2) _ fun D H3 _ e3 hD => ?_
  exact ⟨D, valV kvs k, rfl, DGet.k hD, q H3 (e2.trans e3)⟩
theorem ed_dictT {b : Addr} {o : Obj} {ps : List Addr} {kvs : List (Key × V)} (h : Ev te σ H (.ref b)) (hb : H b = some (.frz o (.tup (ps.map V.ref)))) (ho : o.dict = none) (hp : Paired (fun p kv => SqT K H p [kV kv.1, kv.2]) ps kvs) :
    EvD (tCB (rDictT K) (tCons te tNil)) σ H (mergeK [] kvs) := fun H1 e Q q => by
  refine h H1 e _ fun H2 e2 => ?_
  have e12 := e.trans e2
  exact ⟨b, o, ps, kvs, rfl, e12 _ _ hb, ho, L2.Paired.mapP hp fun p kv z => ex_t e12 z, fun D hD => q D _ (fresh_back e2 hD) (e2.trans (Ex.new hD)) upd_same⟩
/-- {n: True for n in a tuple} -/
theorem ed_days {ns : List Int} {tl : TE} {j : Nat} {vs : List Nat} (h : EvQ K tl σ H (ns.map V.int)) (hz : ns.length ≤ 1000) (hw : ∀ x, wipe ((wipe σ vs).set j (some x)) vs = wipe σ vs) (hj : ∀ x : V, ((wipe σ vs).set j (some x))[j]? = some (some x)) :
    EvD (tDc (iTup K tl) (gName j) tYes (tVar j) (tC (.bl true)) vs) σ H (kdays ns) := fun H0 e Q q => by
  refine h H0 e _ fun a H1 e1 hx => ?_
  refine ⟨a, rfl, ⟨_, hx⟩, fun D hD => ?_⟩
  refine dc_tup (xs := ns.map V.int) (fun i H' => H1 D = none ∧ Ex H1 H' ∧ H' D = some (.dK (kdays (ns.take i)))) ⟨hD, Ex.new hD, upd_same⟩ (fun i H' _ p => ex_t p.2.1 hx) (fun i x H' hi p => ?_) fun H' p => ?_
  · obtain ⟨n, hn, rfl⟩ := map_at hi
    obtain ⟨p1, p2, p3⟩ := p
    refine ⟨hw _, ?_⟩
    refine et_yes (H := H') H' (Ex.refl _) _ fun H3 e3 => ?_
    rw [if_pos rfl]
    refine ⟨.int n, hj _, ?_⟩
    have hlen : (kdays (ns.take i)).length < sizeLine := by
      have h1 := kdays_len (ns.take i)
      have h2 : (ns.take i).length ≤ ns.length := by rw [List.length_take]; omega
      exact small1000 (by omega)
    refine ⟨kdays (ns.take i), Sum.inl n, rfl, e3 _ _ p3, hlen, p1, Ex.mut (p2.trans e3) p1, ?_⟩
    rw [upd_same, kdays_snoc, List.take_add_one, hn]
    rfl
  · obtain ⟨p1, p2, p3⟩ := p
    rw [List.length_map, List.take_length] at p3
    exact q D H' (fresh_back e1 p1) (e1.trans p2) p3
/-! ### the calendar's dict -/
theorem cal_dict {a : Addr} {rows : List (Str × List Int)} (hc : CalH H a rows) (hn : (rows.map (·.1)).Nodup) : ∃ (b : Addr) (kvs : List (Key × V)), H a = some (.tup [.str "calendar", .ref b]) ∧
    (∀ {σ : L2.St} {H1 : Hp} {i : Nat}, σ[i]? = some (some (.ref a)) → Ex H H1 → EvD (tCB (rDictT K) (tCons (tOp (rIxT K) (tVar i) (tC (.int 1))) tNil)) σ H1 kvs) ∧
    (∀ r ∈ rows, ∃ q, valV kvs (Sum.inr r.1) = some (.ref q) ∧ H q = some (.tup (r.2.map V.int))) := by
  obtain ⟨b, o, ps, qs, ha, hb, hod, lp, lq, hat⟩ := hc.ex
  have lz : (rows.zip qs).length = rows.length := by rw [List.length_zip]; omega
  have kat : ∀ {i : Nat} {r : Str × List Int} {q : Addr}, rows[i]? = some r → qs[i]? = some q → ((rows.zip qs).map fun x => ((Sum.inr x.1.1 : Key), V.ref x.2))[i]? = some (Sum.inr r.1, V.ref q) := fun {i r q} h1 h2 => by
    rw [List.getElem?_map, List.getElem?_zip_eq_some (z := (r, q)) |>.mpr ⟨h1, h2⟩]
    rfl
  refine ⟨b, mergeK [] ((rows.zip qs).map fun x => ((Sum.inr x.1.1 : Key), V.ref x.2)), ha, fun {σ H1 i} hs e => ?_, fun r hr => ?_⟩
  · refine ed_dictT (ev_op (ev_var hs) ev_c (rv_ixT (st_of (e _ _ ha)) (at_of (j := 1) rfl rfl))) (e _ _ hb) hod (paired_of (by rw [List.length_map, lz, lp]) fun i p kv h1 h2 => ?_)
    have hi : i < rows.length := by
      have := (List.getElem?_eq_some_iff.mp h1).1
      omega
    obtain ⟨r, hr⟩ := get_of (l := rows) rfl hi
    obtain ⟨q, hq⟩ := get_of lq hi
    have e2 := (kat hr hq).symm.trans h2
    cases e2
    exact st_of (e _ _ (hat i p q r h1 hq hr).1)
  · obtain ⟨i, hi, e⟩ := List.mem_iff_getElem.mp hr
    have hr' : rows[i]? = some r := by rw [List.getElem?_eq_getElem hi, e]
    obtain ⟨q, hq⟩ := get_of lq hi
    obtain ⟨p, hp⟩ := get_of lp hi
    refine ⟨q, valV_merge_get ?_ (kat hr' hq), (hat i p q r hp hq hr').2⟩
    have e3 : ((rows.zip qs).map fun x => ((Sum.inr x.1.1 : Key), V.ref x.2)).map (·.1) = (rows.map (·.1)).map (Sum.inr : Str → Key) := by
      rw [List.map_map, List.map_map]
      have : (rows.zip qs).map Prod.fst = rows := List.map_fst_zip (by omega)
      conv => rhs; rw [← this]
      rw [List.map_map]
      rfl
    rw [e3]
    exact List.Pairwise.map _ (fun a b hab z => hab (Sum.inr.inj z)) hn
end
/-! ### check_days, common_days, open_days -/
def PreChk : List V → Hp → Prop := fun vs H => ∃ a c rows zs, vs = [.ref a, .ref c] ∧ CalH H a rows ∧ GoodCal rows ∧ H c = some (.tup (zs.map V.str)) ∧ GoodCur zs ∧ Within rows zs
/-- a def that answers None where Pre holds -/
abbrev spN (Pre : List V → Hp → Prop) : Sp := spR Pre (fun _ v _ => v = .non)
def PostCom (rows : List (Str × List Int)) (zs : List Str) (v : V) (H : Hp) : Prop := ∃ p, v = .ref p ∧ H p = some (.tup ((cm rows zs).map V.int))
/-- common_days, open_days -/
def spCom : Sp := fun vs H Q _ => ∃ a c rows zs, vs = [.ref a, .ref c] ∧ CalH H a rows ∧ GoodCal rows ∧ H c = some (.tup (zs.map V.str)) ∧ GoodCur zs ∧ Within rows zs ∧ ∀ v H', Ex H H' → PostCom rows zs v H' → Q v H'
theorem ew_com {tr : TA} {σ : L2.St} {H : Hp} {E : XK} {a c : Addr} {rows : List (Str × List Int)} {zs : List Str} (h : EvA tr σ H [.ref a, .ref c]) (hc : CalH H a rows) (gc : GoodCal rows) (hz : H c = some (.tup (zs.map V.str))) (gz : GoodCur zs) (hw : Within rows zs) :
    EvW (tCall spCom [] E tr) σ H ((cm rows zs).map V.int) := fun H1 e Q q => by
  refine h H1 e _ fun H2 e2 => ?_
  have e12 := e.trans e2
  refine ⟨a, c, rows, zs, rfl, hc.mono e12, gc, e12 _ _ hz, gz, hw, fun v H' e3 hv => ?_⟩
  obtain ⟨p, rfl, hp⟩ := hv
  exact q p H' (e2.trans e3) hp
section
variable {P : Program} {w : World} {K : PySem.W.Frag} {mg : Str → Option Value} {base : Heap} {f : Addr} {fd : FuncData} {aK : Addr} {tL : Tok}
theorem ok_check_days (F : Fun K "check_days" "check_days" s_check_days f fd) (T : Tx K mg aK tL) (c_is_calendar : Cal P w K mg base CX0 4 "is_calendar" ["thing"] (spB PreCal)) (c_is_currencies : Cal P w K mg base CX0 2 "is_currencies" ["thing"] (spB PreCurr)) :
    FnOk P w K mg base CX0 5 f fd ["calendar", "currencies"] (spN PreChk) := by
  refine F.ok sc_check_days (fun vs H Q E h => ?_) (fun cdv A outer s H vs Q E hr h => ?_)
  · obtain ⟨⟨a, c, rows, zs, rfl, _⟩, _⟩ := h
    rfl
  · obtain ⟨⟨a, c, rows, zs, rfl, hc, gc, hz, gz, hw⟩, q⟩ := h
    have hu := hu_of hr
    refine ⟨_, (pss_cons (ps_if (pt_not (pt_val (pe_cl c_is_calendar hr (by decide) (by rfl) (pa_cons (pv 0) pa_nil))))
        (pss_one ps_never)
        pss_nil)
      (pss_one (ps_if (PW.pt (pw_or (pt_not (pt_val (pe_cl c_is_currencies hr (by decide) (by rfl) (pa_cons (pv 1) pa_nil)))) (pw_or1 (pt_not (pt_val (pe_callB (crAll (K := K) rfl rfl) (by rfl) T.all (by decide +kernel) (pa_cons (pe_lc (own := [("name", 2)]) rfl sc_check_days.nd (piTup (K := K) rfl (pv 1)) (blkOk_by (own := [("name", 2)]) (N := N_check_days) (sc := defScope s_check_days) (by decide +kernel)) (fun _ _ _ _ _ => (pg_name (i := 2) sc_check_days.nd rfl (Or.inl rfl))) (fun _ _ _ _ _ => pts_nil) (fun _ _ _ _ _ => (pe_cmp (pc_din hu (pv 2) (pe_callTy (crDictT (K := K) rfl rfl) (by rfl) T.dict (by decide +kernel) (pa_cons (pe_ix (ixT (K := K) rfl) (pv 0) pe_int (fun _ _ => rfl)) pa_nil))) (by rfl)))) pa_nil)))))))
        (pss_one ps_never)
        pss_nil))), ?_⟩
    have nd := asc_nodup gc.cur.asc
    obtain ⟨b, kvs, hab, hdict, hval⟩ := cal_dict (K := K) hc nd
    refine q_when (b := false) (et_is (et_not (et_B (ev_callB (ea_cons (ev_var rfl) ea_nil) fun H1 e1 => ⟨a, rows, rfl, hc.mono e1, gc⟩))) rfl) (fun z => by cases z) (fun _ H1 e1 => ?_)
    have g4 := gz.l4
    refine s_when (b := false) (et_is (et_or (et_not (et_B (ev_callB (ea_cons (ev_var rfl) ea_nil) fun H2 e2 => ⟨c, zs, rfl, (e1.trans e2) _ _ hz, gz⟩))) fun _ =>
      et_not (et_B (ev_allT (el_lcT (fun _ => true) (fun _ => .bl true) (eq_ev (ev_var rfl) (st_of (e1 _ _ hz))) (by rw [List.length_map]; omega) (fun _ => rfl) (fun _ _ _ _ _ => et_yes) (fun i x H2 e2 hx _ => ?_))))) rfl) (fun z => by cases z) (fun _ H2 e2 => q _ _ (e1.trans e2) rfl)
    obtain ⟨z, hzz, rfl⟩ := map_at hx
    obtain ⟨r, hr', er⟩ := hw z (List.mem_of_getElem? hzz)
    obtain ⟨qq, hv, _⟩ := hval r hr'
    have key := ed_din (k := Sum.inr z) (ty := tVar 2) (ev_var (v := kV (Sum.inr z)) rfl) (hdict (σ := (wipe (start N_check_days [.ref a, .ref c]) [2]).set 2 (some (.str z))) (H1 := H2) (i := 0) rfl (e1.trans e2))
    rw [← er, hv] at key
    rw [← er]
    exact key
theorem ok_common_days (F : Fun K "common_days" "common_days" s_common_days f fd) (T : Tx K mg aK tL) : FnOk P w K mg base CX0 1 f fd ["calendar", "currencies"] spCom := by
  refine F.ok sc_common_days (fun vs H Q E h => ?_) (fun cdv A outer s H vs Q E hr h => ?_)
  · obtain ⟨a, c, rows, zs, rfl, _⟩ := h
    rfl
  · obtain ⟨a, c, rows, zs, rfl, hc, gc, hz, gz, hw, q⟩ := h
    have hu := hu_of hr
    refine ⟨_, (pss_cons (ps_set (i := 2) sc_common_days.nd rfl (Or.inl rfl) (pe_callTy (crDictT (K := K) rfl rfl) (by rfl) T.dict (by decide +kernel) (pa_cons (pe_ix (ixT (K := K) rfl) (pv 0) pe_int (fun _ _ => rfl)) pa_nil)))
      (pss_cons (ps_set (i := 3) sc_common_days.nd rfl (Or.inl rfl) (pe_dget hu (pv 2) (pe_ix (ixT (K := K) rfl) (pv 1) pe_int (fun _ _ => rfl)) (fun _ _ => rfl)))
      (pss_cons (ps_for PassesOwn.never rfl (piTup (K := K) rfl (pe_slice (slT (K := K) rfl) (pv 1) (po_some pe_int) po_none)) (pg_name (i := 4) sc_common_days.nd rfl (Or.inl rfl))
        (pss_cons (ps_set (i := 5) sc_common_days.nd rfl (Or.inr rfl) (pe_dc (own := [("day", 6)]) rfl sc_common_days.nd (piTup (K := K) rfl (pe_dget hu (pv 2) (pv 4) (fun _ _ => rfl))) (blkOk_by (own := [("day", 6)]) (N := N_common_days) (sc := defScope s_common_days) (by decide +kernel)) (fun _ _ _ _ _ => (pg_name (i := 6) sc_common_days.nd rfl (Or.inl rfl))) (fun _ _ _ _ _ => pts_nil) (fun _ _ _ _ _ => (pv 6)) (fun _ _ _ _ _ => pe_bl)))
      (pss_one (ps_set (i := 3) sc_common_days.nd rfl (Or.inl rfl) (pe_callTy (crTup (K := K) rfl) (by rfl) T.tuple (by decide +kernel) (pa_cons (pe_lc (own := [("day", 6)]) rfl sc_common_days.nd (piTup (K := K) rfl (pv 3)) (blkOk_by (own := [("day", 6)]) (N := N_common_days) (sc := defScope s_common_days) (by decide +kernel)) (fun _ _ _ _ _ => (pg_name (i := 6) sc_common_days.nd rfl (Or.inl rfl))) (fun _ _ _ _ _ => pts_one (pt_cmp (pc_din hu (pv 6) (pv 5)) (by rfl))) (fun _ _ _ _ _ => (pv 6))) pa_nil))))))
      (pss_one (ps_ret (pv 3)))))), ?_⟩
    have nd := asc_nodup gc.cur.asc
    obtain ⟨b, kvs, hab, hdict, hval⟩ := cal_dict (K := K) hc nd
    obtain ⟨z0, zr, rfl⟩ : ∃ z0 zr, zs = z0 :: zr := by
      cases zs with
      | nil => exact absurd gz.l1 (by simp)
      | cons z r => exact ⟨z, r, rfl⟩
    have g4 := gz.l4
    rw [List.length_cons] at g4
    have hday : ∀ z ∈ z0 :: zr, ∃ qq, valV kvs (Sum.inr z) = some (.ref qq) ∧ H qq = some (.tup ((dz rows z).map V.int)) ∧ (dz rows z).length ≤ 1000 := fun z hzm => by
      obtain ⟨r, hr', er⟩ := hw z hzm
      obtain ⟨qq, h1, h2⟩ := hval r hr'
      rw [← er, dz_of nd hr']
      exact ⟨qq, h1, h2, (gc.days r hr').l1000⟩
    obtain ⟨q0, v0, t0, l0⟩ := hday z0 List.mem_cons_self
    -- rows = dict(calendar[1])
    refine q_asgD (hdict (H1 := H) rfl (Ex.refl H)) fun D H1 _ e1 hD => ?_
    -- found = rows[currencies[0]]
    refine q_asg (v := .ref q0) (ev_dget (k := Sum.inr z0) (ev_var rfl) (ev_op (ev_var rfl) ev_c (rv_ixT (st_of (e1 _ _ hz)) (at_of (j := 0) rfl rfl))) hD v0) fun H2 e2 => ?_
    have e12 := e1.trans e2
    have sl : EvQ K (tSl (rSlT K) (tVar 1) (tPart (tC (.int 1))) tNoPart) (([some (.ref a), some (.ref c), some (.ref D), none, none, none, none] : L2.St).set 3 (some (.ref q0))) H2 (zr.map V.str) := fun H3 e3 Q3 q3 => by
      refine ⟨.ref c, rfl, 1, rfl, ?_⟩
      have hcut : cutV ((z0 :: zr).map V.str) (some 1) none = zr.map V.str := by
        unfold cutV
        rw [show HT.sIx ((z0 :: zr).map V.str).length 0 (some 1) = min 1 ((z0 :: zr).map V.str).length from HT.sIx_nat _ 0 1, HT.sIx_none, List.map_cons, List.length_cons]
        rw [show min 1 ((zr.map V.str).length + 1) = 1 by omega]
        show (zr.map V.str).take _ = _
        exact List.take_of_length_le (by omega)
      refine ⟨c, (z0 :: zr).map V.str, rfl, st_of ((e12.trans e3) _ _ hz), fun ⟨h1, _⟩ => ?_, fun p hp => ?_⟩
      · rw [show HT.sIx ((z0 :: zr).map V.str).length 0 (some 1) = min 1 ((z0 :: zr).map V.str).length from HT.sIx_nat _ 0 1, List.map_cons, List.length_cons] at h1
        omega
      · rw [hcut]
        exact q3 p _ (Ex.new hp) (st_of upd_same)
    refine q_forQ sl (fun i σ' H' => ∃ (p : Addr) (y4 y5 : Option V), σ' = [some (.ref a), some (.ref c), some (.ref D), some (.ref p), y4, y5, none] ∧ H' p = some (.tup ((fl rows (dz rows z0) (zr.take i)).map V.int))) (fun H3 e3 => ⟨q0, none, none, rfl, (e12.trans e3) _ _ t0⟩) ?_ ?_
    · rintro i x σ' H3 H' N e3 hx e3' ⟨p, y4, y5, rfl, hp⟩ hN
      obtain ⟨z, hzi, rfl⟩ := map_at hx
      have eH' := (e12.trans e3).trans e3'
      have hD' : H' D = some (.dK kvs) := ((e2.trans e3).trans e3') _ _ hD
      obtain ⟨q1, v1, t1, l1⟩ := hday z (List.mem_cons_of_mem _ (List.mem_of_getElem? hzi))
      -- known
      refine q_asgD (ed_days (K := K) (σ := [some (.ref a), some (.ref c), some (.ref D), some (.ref p), some (.str z), y5, none]) (j := 6) (vs := [6]) (ns := dz rows z) (eq_ev (ev_dget (k := Sum.inr z) (ev_var (i := 2) rfl) (ev_var (i := 4) rfl) hD' v1) (st_of (eH' _ _ t1))) l1 (fun _ => rfl) fun _ => rfl) fun D2 H4 _ e4 hD2 => ?_
      -- found
      have fll : (fl rows (dz rows z0) (zr.take i)).length ≤ 1000 := Nat.le_trans (fl_len _ _ _) l0
      have key := el_lcT (K := K) (te := tVar 6) (t := tB (tDIn (tVar 6) (tVar 5))) (σ := [some (.ref a), some (.ref c), some (.ref D), some (.ref p), some (.str z), some (.ref D2), none]) (H := H4) (j := 6) (vs := [6]) (tl := tVar 3)
        (fun k => decide ((fl rows (dz rows z0) (zr.take i)).getD k 0 ∈ dz rows z)) (fun k => .int ((fl rows (dz rows z0) (zr.take i)).getD k 0)) (eq_ev (ev_var rfl) (st_of (e4 _ _ hp))) (by rw [List.length_map]; omega) (fun _ => rfl)
        (fun k x H5 e5 hx => by
          obtain ⟨d, hd, rfl⟩ := map_at hx
          rw [show (fl rows (dz rows z0) (zr.take i)).getD k 0 = d by rw [List.getD_eq_getElem?_getD, hd]; rfl]
          exact et_is (et_B (ev_din (k := Sum.inl d) (ev_var (v := kV (Sum.inl d)) rfl) (ev_var rfl) (e5 _ _ hD2))) (kdays_in _ _))
        (fun k x H5 e5 hx _ => by
          obtain ⟨d, hd, rfl⟩ := map_at hx
          rw [show (fl rows (dz rows z0) (zr.take i)).getD k 0 = d by rw [List.getD_eq_getElem?_getD, hd]; rfl]
          exact ev_var rfl)
      rw [List.length_map, given_filter (0 : Int) (fun d => decide (d ∈ dz rows z)) V.int] at key
      refine s_asgU (eu_tupOf key) fun p2 H5 _ e5 hp2 => ?_
      refine hN _ _ (e4.trans e5) ⟨p2, some (.str z), some (.ref D2), rfl, ?_⟩
      rw [List.take_add_one, hzi]
      show _ = some (HO.tup ((fl rows (dz rows z0) (zr.take i ++ [z])).map V.int))
      rw [fl_snoc]
      exact hp2
    · rintro σ' H' e3 ⟨p, y4, y5, rfl, hp⟩
      rw [List.length_map, List.take_length] at hp
      exact s_ret (v := .ref p) (ev_var rfl) fun H4 e4 => q _ _ (((e12.trans e3)).trans e4) ⟨p, rfl, e4 _ _ hp⟩
theorem ok_open_days (F : Fun K "open_days" "open_days" s_open_days f fd) (T : Tx K mg aK tL) (c_check_days : Cal P w K mg base CX0 5 "check_days" ["calendar", "currencies"] (spN PreChk)) (c_common_days : Cal P w K mg base CX0 1 "common_days" ["calendar", "currencies"] spCom) :
    FnOk P w K mg base CX0 6 f fd ["calendar", "currencies"] spCom := by
  refine F.ok sc_open_days (fun vs H Q E h => ?_) (fun cdv A outer s H vs Q E hr h => ?_)
  · obtain ⟨a, c, rows, zs, rfl, _⟩ := h
    rfl
  · obtain ⟨a, c, rows, zs, rfl, hc, gc, hz, gz, hw, q⟩ := h
    have hu := hu_of hr
    refine ⟨_, (pss_cons (ps_expr (pe_cl c_check_days hr (by decide) (by rfl) (pa_cons (pv 0) (pa_cons (pv 1) pa_nil))))
      (pss_one (ps_ret (pe_cl c_common_days hr (by decide) (by rfl) (pa_cons (pv 0) (pa_cons (pv 1) pa_nil)))))), ?_⟩
    refine q_drop (v := .non) (ev_callN (ea_cons (ev_var rfl) (ea_cons (ev_var rfl) ea_nil)) fun H1 e1 => ⟨a, c, rows, zs, rfl, hc.mono e1, gc, e1 _ _ hz, gz, hw⟩) fun H1 e1 => ?_
    exact s_retG (gv_W (ew_com (ea_cons (ev_var rfl) (ea_cons (ev_var rfl) ea_nil)) (hc.mono e1) gc (e1 _ _ hz) gz hw)) fun v H2 e2 hv => q v H2 (e1.trans e2) hv
end
end N56
namespace N56
open PySem PySem.Spec PyProof.Rows L2 Evl
def optV : Option Int → V
  | some d => .int d
  | none => .non
def after (l : List Int) (late : Bool) (day : Int) : List Int := l.filter fun d => decide ((if late then day + 1 else day) ≤ d)
def upTo (l : List Int) (day : Int) : List Int := l.filter fun d => decide (d ≤ day)
def back (l : List Int) (lag : Nat) : Option Int := if lag < l.length then l[l.length - 1 - lag]? else none
/-- the arguments of settles, day_of -/
def ArgS (vs : List V) (H : Hp) (rows : List (Str × List Int)) (zs : List Str) (day : Int) (late : Bool) (lag : Nat) : Prop :=
  ∃ a c, vs = [.ref a, .ref c, .int day, .bl late, .int (lag : Int)] ∧ CalH H a rows ∧ GoodCal rows ∧ H c = some (.tup (zs.map V.str)) ∧ GoodCur zs ∧ Within rows zs ∧ 0 ≤ day ∧ day ≤ 400
def spSet : Sp := fun vs H Q _ => ∃ rows zs day late lag, ArgS vs H rows zs day late lag ∧ ∀ H', Ex H H' → Q (optV (after (cm rows zs) late day)[lag]?) H'
def ArgL (vs : List V) (H : Hp) (rows : List (Str × List Int)) (zs : List Str) (day : Int) (lag : Nat) : Prop :=
  ∃ a c, vs = [.ref a, .ref c, .int day, .int (lag : Int)] ∧ CalH H a rows ∧ GoodCal rows ∧ H c = some (.tup (zs.map V.str)) ∧ GoodCur zs ∧ Within rows zs ∧ 0 ≤ day ∧ day ≤ 400
def spLat : Sp := fun vs H Q _ => ∃ rows zs day lag, ArgL vs H rows zs day lag ∧ ∀ H', Ex H H' → Q (optV (back (upTo (cm rows zs) day) lag)) H'
theorem ArgS.mono {vs : List V} {H H' : Hp} {rows : List (Str × List Int)} {zs : List Str} {day : Int} {late : Bool} {lag : Nat} (e : Ex H H') (h : ArgS vs H rows zs day late lag) : ArgS vs H' rows zs day late lag := by
  obtain ⟨a, c, h1, h2, h3, h4, h5⟩ := h
  exact ⟨a, c, h1, h2.mono e, h3, e _ _ h4, h5⟩
theorem ArgL.mono {vs : List V} {H H' : Hp} {rows : List (Str × List Int)} {zs : List Str} {day : Int} {lag : Nat} (e : Ex H H') (h : ArgL vs H rows zs day lag) : ArgL vs H' rows zs day lag := by
  obtain ⟨a, c, h1, h2, h3, h4, h5⟩ := h
  exact ⟨a, c, h1, h2.mono e, h3, e _ _ h4, h5⟩
def PreLag : List V → Hp → Prop := fun vs _ => ∃ i, vs = [.int i] ∧ 0 ≤ i
theorem isSome_at {α : Type} (l : List α) (i : Nat) : (l[i]?).isSome = decide (i < l.length) := by
  by_cases h : i < l.length
  · rw [List.getElem?_eq_getElem h, decide_eq_true h]
    rfl
  · rw [List.getElem?_eq_none (by omega), decide_eq_false h]
    rfl
theorem cm_len {rows : List (Str × List Int)} {zs : List Str} (gc : GoodCal rows) (gz : GoodCur zs) (hw : Within rows zs) : (cm rows zs).length ≤ 1000 := by
  cases zs with
  | nil => exact Nat.zero_le _
  | cons z r =>
    obtain ⟨q, hq, eq⟩ := hw z List.mem_cons_self
    have h := dz_of (asc_nodup gc.cur.asc) hq
    have h2 := (gc.days q hq).l1000
    rw [eq] at h
    exact Nat.le_trans (fl_len rows r (dz rows z)) (by rw [h]; exact h2)
section
variable {K : PySem.W.Frag} {σ : L2.St} {H H' : Hp} {ta tb te tx : TE} {t u : TT} {x y z v : V} {tr : TA} {D : Ends} {tz : TS}
theorem ev_set {E : XK} {vs : List V} {rows : List (Str × List Int)} {zs : List Str} {day : Int} {late : Bool} {lag : Nat} (h : EvA tr σ H vs) (ha : ArgS vs H rows zs day late lag) : Ev (tCall spSet [] E tr) σ H (optV (after (cm rows zs) late day)[lag]?) := fun H1 e Q q => by
  refine h H1 e _ fun H2 e2 => ?_
  rw [List.append_nil]
  exact ⟨rows, zs, day, late, lag, ha.mono (e.trans e2), fun H' e3 => q H' (e2.trans e3)⟩
theorem ev_lat {E : XK} {vs : List V} {rows : List (Str × List Int)} {zs : List Str} {day : Int} {lag : Nat} (h : EvA tr σ H vs) (ha : ArgL vs H rows zs day lag) : Ev (tCall spLat [] E tr) σ H (optV (back (upTo (cm rows zs) day) lag)) := fun H1 e Q q => by
  refine h H1 e _ fun H2 e2 => ?_
  rw [List.append_nil]
  exact ⟨rows, zs, day, lag, ha.mono (e.trans e2), fun H' e3 => q H' (e2.trans e3)⟩
/-- found[k] if k < len(found) else None -/
theorem ev_pick {l : Addr} {ns : List Int} {k : Nat} {o : Option Int} {tk te2 : TE} (hl : H l = some (.lst (ns.map V.int))) {tc : TT} {b : Bool} (hc : EvT tc σ H b) (hb : b = decide (o.isSome = true)) (h : ∀ d, o = some d → Ev te σ H (.int d)) : Ev (tIf tc te (tC .non)) σ H (optV o) := by
  cases o with
  | none =>
    refine ev_if (b := false) (et_is hc hb) (fun z => by cases z) fun _ => ev_c
  | some d =>
    refine ev_if (b := true) (et_is hc hb) (fun _ => h d rfl) fun z => by cases z
end
section
variable {P : Program} {w : World} {K : PySem.W.Frag} {mg : Str → Option Value} {base : Heap} {f : Addr} {fd : FuncData} {aK : Addr} {tL : Tok}
theorem ok_day_of (F : Fun K "day_of" "day_of" s_day_of f fd) (T : Tx K mg aK tL) (c_common_days : Cal P w K mg base CX0 1 "common_days" ["calendar", "currencies"] spCom) : FnOk P w K mg base CX0 2 f fd ["calendar", "currencies", "day", "late", "lag"] spSet := by
  refine F.ok sc_day_of (fun vs H Q E h => ?_) (fun cdv A outer s H vs Q E hr h => ?_)
  · obtain ⟨rows, zs, day, late, lag, ⟨a, c, rfl, _⟩, _⟩ := h
    rfl
  · obtain ⟨rows, zs, day, late, lag, ⟨a, c, rfl, hc, gc, hz, gz, hw, d0, d4⟩, q⟩ := h
    have hu := hu_of hr
    refine ⟨_, (pss_cons (ps_set (i := 5) sc_day_of.nd rfl (Or.inr rfl) (pe_ifExp (pt_val (pv 3)) (pe_op op_add (pv 2) pe_int) (pv 2)))
      (pss_cons (ps_setLc (i := 6) (own := [("other", 7)]) rfl sc_day_of.nd rfl rfl (sw_true rfl rfl rfl (by decide +kernel)) (piTup (K := K) rfl (pe_cl c_common_days hr (by decide) (by rfl) (pa_cons (pv 0) (pa_cons (pv 1) pa_nil)))) (blkOk_by (own := [("other", 7)]) (N := N_day_of) (sc := defScope s_day_of) (by decide +kernel)) (fun _ _ _ _ _ => (pg_name (i := 7) sc_day_of.nd rfl (Or.inl rfl))) (fun _ _ _ _ _ => pts_one (pt_cmpR op_ge (pv 7) (pv 5) (nomark _))) (fun _ _ _ _ _ => (pv 7)))
      (pss_one (ps_ret (pe_ifExp (pt_cmpR op_lt (pv 4) (pe_callB (crLen (K := K) rfl) (by rfl) T.len (by decide +kernel) (pa_cons (pv 6) pa_nil)) (nomark _)) (pe_ix (ixL (K := K) rfl) (pv 6) (pv 4) (fun _ _ => rfl)) pe_non))))), ?_⟩
    have hlen := cm_len gc gz hw
    refine q_asg (v := .int (if late then day + 1 else day)) (ev_if (b := late) (et_B (ev_var rfl)) (fun hb => ev_is (ev_add (ev_var rfl) ev_c) (by rw [hb]; rfl)) fun hb => ev_is (ev_var rfl) (by rw [hb]; rfl)) fun H1 e1 => ?_
    have key := el_lcT (K := K) (te := tVar 7) (t := tTest (tOp (rI0 fun i j => .bl (decide (j ≤ i))) (tVar 7) (tVar 5))) (σ := [some (.ref a), some (.ref c), some (.int day), some (.bl late), some (.int (lag : Int)), some (.int (if late then day + 1 else day)), none, none]) (H := H1) (j := 7) (vs := [7])
      (tl := tCall spCom [] E0 (tCons (tVar 0) (tCons (tVar 1) tNil))) (fun k => decide ((if late then day + 1 else day) ≤ (cm rows zs).getD k 0)) (fun k => .int ((cm rows zs).getD k 0))
      (eq_w (ew_com (ea_cons (ev_var rfl) (ea_cons (ev_var rfl) ea_nil)) (hc.mono e1) gc (e1 _ _ hz) gz hw)) (by rw [List.length_map]; omega) (fun _ => rfl)
      (fun k x H5 e5 hx => by
        obtain ⟨d, hd, rfl⟩ := map_at hx
        rw [show (cm rows zs).getD k 0 = d by rw [List.getD_eq_getElem?_getD, hd]; rfl]
        exact et_test (ev_geV (ev_var rfl) (ev_var rfl)))
      (fun k x H5 e5 hx _ => by
        obtain ⟨d, hd, rfl⟩ := map_at hx
        rw [show (cm rows zs).getD k 0 = d by rw [List.getD_eq_getElem?_getD, hd]; rfl]
        exact ev_var rfl)
    rw [List.length_map, given_filter (0 : Int) (fun d => decide ((if late then day + 1 else day) ≤ d)) V.int] at key
    refine q_asgL key fun l H2 _ e2 hl => ?_
    have hl' : H2 l = some (.lst ((after (cm rows zs) late day).map V.int)) := hl
    refine s_ret (ev_pick (o := (after (cm rows zs) late day)[lag]?) (k := lag) (tk := tVar 0) (te2 := tVar 0) hl' (et_test (ev_ltV (ev_var rfl) (ev_len (ev_var rfl) (sq_of hl')))) ?_ fun d hd => ?_) fun H3 e3 => q _ ((e1.trans e2).trans e3)
    · rw [List.length_map]
      have e : ((after (cm rows zs) late day)[lag]?).isSome = decide (lag < (after (cm rows zs) late day).length) := isSome_at _ _
      rw [e]
      simp
    · exact ev_op (ev_var rfl) (ev_var rfl) (rv_ixL (sq_of hl') (at_of (j := lag) rfl (by rw [List.getElem?_map, hd]; rfl)))
theorem ok_check_lag (F : Fun K "check_lag" "check_lag" s_check_lag f fd) (T : Tx K mg aK tL) (c_is_number : Cal P w K mg base CX0 1 "is_number" ["value"] (spB PreNum)) : FnOk P w K mg base CX0 2 f fd ["lag"] (spN PreLag) := by
  refine F.ok sc_check_lag (fun vs H Q E h => ?_) (fun cdv A outer s H vs Q E hr h => ?_)
  · obtain ⟨⟨i, rfl, _⟩, _⟩ := h
    rfl
  · obtain ⟨⟨i, rfl, h0⟩, q⟩ := h
    have hu := hu_of hr
    refine ⟨_, (pss_one (ps_if (PW.pt (pw_or (pt_not (pt_val (pe_cl c_is_number hr (by decide) (by rfl) (pa_cons (pv 0) pa_nil)))) (pw_or1 (pt_cmpR op_lt (pv 0) pe_int (nomark _)))))
        (pss_one ps_never)
        pss_nil)), ?_⟩
    refine s_when (b := false) (et_is (et_or (et_not (et_B (ev_callB (ea_cons (ev_var rfl) ea_nil) fun _ _ => ⟨i, rfl⟩))) fun _ => et_test (ev_ltV (ev_var rfl) ev_c)) ?_) (fun z => by cases z) fun _ H1 e1 => q _ _ e1 rfl
    rw [decide_eq_false (by omega)]
    rfl
theorem ok_settles (F : Fun K "settles" "settles" s_settles f fd) (T : Tx K mg aK tL) (c_check_days : Cal P w K mg base CX0 5 "check_days" ["calendar", "currencies"] (spN PreChk)) (c_is_day : Cal P w K mg base CX0 2 "is_day" ["thing"] (spB PreDay))
    (c_check_lag : Cal P w K mg base CX0 2 "check_lag" ["lag"] (spN PreLag)) (c_day_of : Cal P w K mg base CX0 2 "day_of" ["calendar", "currencies", "day", "late", "lag"] spSet) : FnOk P w K mg base CX0 6 f fd ["calendar", "currencies", "day", "late", "lag"] spSet := by
  refine F.ok sc_settles (fun vs H Q E h => ?_) (fun cdv A outer s H vs Q E hr h => ?_)
  · obtain ⟨rows, zs, day, late, lag, ⟨a, c, rfl, _⟩, _⟩ := h
    rfl
  · obtain ⟨rows, zs, day, late, lag, ⟨a, c, rfl, hc, gc, hz, gz, hw, d0, d4⟩, q⟩ := h
    have hu := hu_of hr
    refine ⟨_, (pss_cons (ps_expr (pe_cl c_check_days hr (by decide) (by rfl) (pa_cons (pv 0) (pa_cons (pv 1) pa_nil))))
      (pss_cons (ps_if (pt_not (pt_val (pe_cl c_is_day hr (by decide) (by rfl) (pa_cons (pv 2) pa_nil))))
        (pss_one ps_never)
        pss_nil)
      (pss_cons (ps_if (pt_not (pt_val (pe_callB (crIsi (K := K) rfl) (by rfl) T.isinstance (by decide +kernel) (pa_cons (pv 3) (pa_cons (pe_bltn (v := .ty "bool") (by rfl) T.bool (by decide +kernel) rfl) pa_nil)))))
        (pss_one ps_never)
        pss_nil)
      (pss_cons (ps_expr (pe_cl c_check_lag hr (by decide) (by rfl) (pa_cons (pv 4) pa_nil)))
      (pss_one (ps_ret (pe_cl c_day_of hr (by decide) (by rfl) (pa_cons (pv 0) (pa_cons (pv 1) (pa_cons (pv 2) (pa_cons (pv 3) (pa_cons (pv 4) pa_nil)))))))))))), ?_⟩
    refine q_drop (v := .non) (ev_callN (ea_cons (ev_var rfl) (ea_cons (ev_var rfl) ea_nil)) fun H1 e1 => ⟨a, c, rows, zs, rfl, hc.mono e1, gc, e1 _ _ hz, gz, hw⟩) fun H1 e1 => ?_
    refine q_when (b := false) (et_is (et_not (et_B (ev_callB (ea_cons (ev_var rfl) ea_nil) fun _ _ => ⟨day, rfl, d0, d4⟩))) rfl) (fun z => by cases z) (fun _ H2 e2 => ?_)
    refine q_when (b := false) (et_is (et_not (et_B (ev_isi (ev_var rfl) ev_c (ClsV.ty _) (fun _ _ => .base (.bl late)) (kit_ty (b := "bool") (r := true) (by decide +kernel))))) rfl) (fun z => by cases z) (fun _ H3 e3 => ?_)
    refine q_drop (v := .non) (ev_callN (ea_cons (ev_var rfl) ea_nil) fun _ _ => ⟨(lag : Int), rfl, by omega⟩) fun H4 e4 => ?_
    have e14 := ((e1.trans e2).trans e3).trans e4
    exact s_ret (ev_set (ea_cons (ev_var rfl) (ea_cons (ev_var rfl) (ea_cons (ev_var rfl) (ea_cons (ev_var rfl) (ea_cons (ev_var rfl) ea_nil))))) ⟨a, c, rfl, hc.mono e14, gc, e14 _ _ hz, gz, hw, d0, d4⟩) fun H5 e5 => q _ (e14.trans e5)
theorem ok_latest (F : Fun K "latest" "latest" s_latest f fd) (T : Tx K mg aK tL) (c_check_days : Cal P w K mg base CX0 5 "check_days" ["calendar", "currencies"] (spN PreChk)) (c_is_day : Cal P w K mg base CX0 2 "is_day" ["thing"] (spB PreDay))
    (c_check_lag : Cal P w K mg base CX0 2 "check_lag" ["lag"] (spN PreLag)) (c_common_days : Cal P w K mg base CX0 1 "common_days" ["calendar", "currencies"] spCom) : FnOk P w K mg base CX0 6 f fd ["calendar", "currencies", "day", "lag"] spLat := by
  refine F.ok sc_latest (fun vs H Q E h => ?_) (fun cdv A outer s H vs Q E hr h => ?_)
  · obtain ⟨rows, zs, day, lag, ⟨a, c, rfl, _⟩, _⟩ := h
    rfl
  · obtain ⟨rows, zs, day, lag, ⟨a, c, rfl, hc, gc, hz, gz, hw, d0, d4⟩, q⟩ := h
    have hu := hu_of hr
    refine ⟨_, (pss_cons (ps_expr (pe_cl c_check_days hr (by decide) (by rfl) (pa_cons (pv 0) (pa_cons (pv 1) pa_nil))))
      (pss_cons (ps_if (pt_not (pt_val (pe_cl c_is_day hr (by decide) (by rfl) (pa_cons (pv 2) pa_nil))))
        (pss_one ps_never)
        pss_nil)
      (pss_cons (ps_expr (pe_cl c_check_lag hr (by decide) (by rfl) (pa_cons (pv 3) pa_nil)))
      (pss_cons (ps_setLc (i := 4) (own := [("other", 5)]) rfl sc_latest.nd rfl rfl (sw_true rfl rfl rfl (by decide +kernel)) (piTup (K := K) rfl (pe_cl c_common_days hr (by decide) (by rfl) (pa_cons (pv 0) (pa_cons (pv 1) pa_nil)))) (blkOk_by (own := [("other", 5)]) (N := N_latest) (sc := defScope s_latest) (by decide +kernel)) (fun _ _ _ _ _ => (pg_name (i := 5) sc_latest.nd rfl (Or.inl rfl))) (fun _ _ _ _ _ => pts_one (pt_cmpR op_le (pv 5) (pv 2) (nomark _))) (fun _ _ _ _ _ => (pv 5)))
      (pss_one (ps_ret (pe_ifExp (pt_cmpR op_lt (pv 3) (pe_callB (crLen (K := K) rfl) (by rfl) T.len (by decide +kernel) (pa_cons (pv 4) pa_nil)) (nomark _)) (pe_ix (ixL (K := K) rfl) (pv 4) (pe_op op_sub (pe_op op_sub (pe_callB (crLen (K := K) rfl) (by rfl) T.len (by decide +kernel) (pa_cons (pv 4) pa_nil)) pe_int) (pv 3)) (fun _ _ => rfl)) pe_non))))))), ?_⟩
    have hlen := cm_len gc gz hw
    refine q_drop (v := .non) (ev_callN (ea_cons (ev_var rfl) (ea_cons (ev_var rfl) ea_nil)) fun H1 e1 => ⟨a, c, rows, zs, rfl, hc.mono e1, gc, e1 _ _ hz, gz, hw⟩) fun H1 e1 => ?_
    refine q_when (b := false) (et_is (et_not (et_B (ev_callB (ea_cons (ev_var rfl) ea_nil) fun _ _ => ⟨day, rfl, d0, d4⟩))) rfl) (fun z => by cases z) (fun _ H2 e2 => ?_)
    refine q_drop (v := .non) (ev_callN (ea_cons (ev_var rfl) ea_nil) fun _ _ => ⟨(lag : Int), rfl, by omega⟩) fun H3 e3 => ?_
    have e13 := (e1.trans e2).trans e3
    have key := el_lcT (K := K) (te := tVar 5) (t := tTest (tOp (rI0 fun i j => .bl (decide (i ≤ j))) (tVar 5) (tVar 2))) (σ := [some (.ref a), some (.ref c), some (.int day), some (.int (lag : Int)), none, none]) (H := H3) (j := 5) (vs := [5])
      (tl := tCall spCom [] E0 (tCons (tVar 0) (tCons (tVar 1) tNil))) (fun k => decide ((cm rows zs).getD k 0 ≤ day)) (fun k => .int ((cm rows zs).getD k 0))
      (eq_w (ew_com (ea_cons (ev_var rfl) (ea_cons (ev_var rfl) ea_nil)) (hc.mono e13) gc (e13 _ _ hz) gz hw)) (by rw [List.length_map]; omega) (fun _ => rfl)
      (fun k x H5 e5 hx => by
        obtain ⟨d, hd, rfl⟩ := map_at hx
        rw [show (cm rows zs).getD k 0 = d by rw [List.getD_eq_getElem?_getD, hd]; rfl]
        exact et_test (ev_leV (ev_var rfl) (ev_var rfl)))
      (fun k x H5 e5 hx _ => by
        obtain ⟨d, hd, rfl⟩ := map_at hx
        rw [show (cm rows zs).getD k 0 = d by rw [List.getD_eq_getElem?_getD, hd]; rfl]
        exact ev_var rfl)
    rw [List.length_map, given_filter (0 : Int) (fun d => decide (d ≤ day)) V.int] at key
    refine q_asgL key fun l H4 _ e4 hl => ?_
    have hl' : H4 l = some (.lst ((upTo (cm rows zs) day).map V.int)) := hl
    refine s_ret (ev_pick (o := back (upTo (cm rows zs) day) lag) (k := lag) (tk := tVar 0) (te2 := tVar 0) hl' (et_test (ev_ltV (ev_var rfl) (ev_len (ev_var rfl) (sq_of hl')))) ?_ fun d hd => ?_) fun H5 e5 => q _ ((e13.trans e4).trans e5)
    · rw [List.length_map]
      congr 1
      unfold back
      split
      · rename_i hlt
        rw [isSome_at]
        simp
        omega
      · rename_i hlt
        simp
        omega
    · unfold back at hd
      split at hd
      · rename_i hlt
        refine ev_op (ev_var rfl) (ev_sub (ev_sub (ev_len (ev_var rfl) (sq_of hl')) ev_c) (ev_var rfl)) (rv_ixL (i := (((upTo (cm rows zs) day).map V.int).length : Int) - 1 - (lag : Int)) (sq_of hl') (at_of (j := (upTo (cm rows zs) day).length - 1 - lag) (by rw [List.length_map]; omega) (by rw [List.getElem?_map, hd]; rfl)))
      · cases hd
end
end N56
namespace N56
open PySem PySem.Spec PyProof.Rows L2 Evl
/-- the rows without a day of one name -/
def minusR (z : Str) (d : Int) (r : Str × List Int) : Str × List Int := (r.1, r.2.filter fun o => decide (r.1 ≠ z) || decide (o ≠ d))
def minus (rows : List (Str × List Int)) (z : Str) (d : Int) : List (Str × List Int) := rows.map (minusR z d)
def ArgC (vs : List V) (H : Hp) (rows : List (Str × List Int)) (z : Str) (d : Int) : Prop := ∃ a r, vs = [.ref a, .str z, .int d] ∧ CalH H a rows ∧ GoodCal rows ∧ r ∈ rows ∧ r.1 = z ∧ 0 ≤ d ∧ d ≤ 400
def spClo : Sp := fun vs H Q _ => ∃ rows z d, ArgC vs H rows z d ∧ d ∈ dz rows z ∧ ∀ a' H', Ex H H' → CalH H' a' (minus rows z d) → Q (.ref a') H'
section
variable {K : PySem.W.Frag} {σ : L2.St} {H H' : Hp} {ta tb te tx : TE} {t u : TT} {x y z v : V} {tr : TA} {D : Ends} {tz : TS}
theorem gv_tup2 {ys : List V} (ha : Ev ta σ H x) (hb : EvU tb σ H ys) : Gv (tTup (tCons ta (tCons tb tNil))) σ H (fun v H2 => ∃ p q, v = .ref p ∧ H2 p = some (.tup [x, .ref q]) ∧ H2 q = some (.tup ys)) := fun H1 e Q k => by
  refine ha H1 e _ fun H2 e2 => ?_
  refine hb H2 (e.trans e2) _ fun q H3 _ e3 hq => ?_
  refine ⟨(by show 2 ≤ sizeLine; decide), fun p hp => ?_⟩
  refine k _ _ ((e2.trans e3).trans (Ex.new hp)) ⟨p, q, rfl, upd_same, ?_⟩
  rw [upd_ne (ne_of_none hq hp)]
  exact hq
theorem s_appG {l : Addr} {xs : List V} {P : V → Hp → Prop} (hl : H l = some (.lst xs)) (ha : Ev ta σ H (.ref l)) (h : Gv te σ H P) (hz : xs.length < 100000) (k : ∀ v H1, Ex H H1 → P v H1 → D.nx σ (upd H1 l (.lst (xs ++ [v])))) :
    tDrop (tBM K "list" rAppend ta (tCons te tNil)) D σ H := ha H (Ex.refl H) _ fun H1 e1 =>
  ⟨Or.inl ⟨rfl, xs, sq_of (e1 l _ hl)⟩, h H1 e1 _ fun v H2 e2 hv => ⟨l, xs, v, rfl, rfl, e2 l _ (e1 l _ hl), sz_lt hz, k v H2 (e1.trans e2) hv⟩⟩
theorem rowAt_upd {l p q : Addr} {xs : List V} {o : HO} {r : Str × List Int} (hl : H l = some (.lst xs)) (h : RowAt H p q r) : RowAt (upd H l o) p q r := by
  obtain ⟨h1, h2⟩ := h
  have n1 : p ≠ l := ne_of h1 hl (by intro z; cases z)
  have n2 : q ≠ l := ne_of h2 hl (by intro z; cases z)
  exact ⟨by rw [upd_ne n1]; exact h1, by rw [upd_ne n2]; exact h2⟩
theorem inV_ints (d : Int) (ns : List Int) : inV (.int d) (ns.map V.int) = decide (d ∈ ns) := by
  unfold inV
  rw [List.any_map]
  by_cases h : d ∈ ns
  · rw [decide_eq_true h]
    exact List.any_eq_true.mpr ⟨d, h, by show (d == d) = true; simp⟩
  · rw [decide_eq_false h]
    refine List.any_eq_false.mpr fun n hn => ?_
    show ¬ (n == d) = true
    intro e
    have := eq_of_beq e
    subst this
    exact h hn
end
section
variable {P : Program} {w : World} {K : PySem.W.Frag} {mg : Str → Option Value} {base : Heap} {f : Addr} {fd : FuncData} {aK : Addr} {tL : Tok}
theorem ok_closed (F : Fun K "closed" "closed" s_closed f fd) (T : Tx K mg aK tL) (c_is_calendar : Cal P w K mg base CX0 4 "is_calendar" ["thing"] (spB PreCal)) (c_is_name : Cal P w K mg base CX0 1 "is_name" ["thing"] (spB PreName))
    (c_is_day : Cal P w K mg base CX0 2 "is_day" ["thing"] (spB PreDay)) : FnOk P w K mg base CX0 5 f fd ["calendar", "currency", "day"] spClo := by
  refine F.ok sc_closed (fun vs H Q E h => ?_) (fun cdv A outer s H vs Q E hr h => ?_)
  · obtain ⟨rows, z, d, ⟨a, r, rfl, _⟩, _⟩ := h
    rfl
  · obtain ⟨rows, z, d, ⟨a, r, rfl, hc, gc, hr0, rfl, d0, d4⟩, hd, q⟩ := h
    have hu := hu_of hr
    refine ⟨_, (pss_cons (ps_if (pt_not (pt_val (pe_cl c_is_calendar hr (by decide) (by rfl) (pa_cons (pv 0) pa_nil))))
        (pss_one ps_never)
        pss_nil)
      (pss_cons (ps_if (PW.pt (pw_or (pt_not (pt_val (pe_cl c_is_name hr (by decide) (by rfl) (pa_cons (pv 1) pa_nil)))) (pw_or1 (pt_cmp (pc_dnotin hu (pv 1) (pe_callTy (crDictT (K := K) rfl rfl) (by rfl) T.dict (by decide +kernel) (pa_cons (pe_ix (ixT (K := K) rfl) (pv 0) pe_int (fun _ _ => rfl)) pa_nil))) (by rfl)))))
        (pss_one ps_never)
        pss_nil)
      (pss_cons (ps_if (pt_not (pt_val (pe_cl c_is_day hr (by decide) (by rfl) (pa_cons (pv 2) pa_nil))))
        (pss_one ps_never)
        pss_nil)
      (pss_cons (ps_if (pt_cmpR (opNotInS (K := K) rfl) (pv 2) (pe_dget hu (pe_callTy (crDictT (K := K) rfl rfl) (by rfl) T.dict (by decide +kernel) (pa_cons (pe_ix (ixT (K := K) rfl) (pv 0) pe_int (fun _ _ => rfl)) pa_nil)) (pv 1) (fun _ _ => rfl)) (by rfl))
        (pss_one ps_never)
        pss_nil)
      (pss_cons (ps_set (i := 3) sc_closed.nd rfl (Or.inl rfl) (pe_lst pa_nil))
      (pss_cons (ps_for PassesOwn.never rfl (piTup (K := K) rfl (pe_ix (ixT (K := K) rfl) (pv 0) pe_int (fun _ _ => rfl))) (pg_tup rfl (pgs_cons (pg_name (i := 4) sc_closed.nd rfl (Or.inr rfl)) (pgs_cons (pg_name (i := 5) sc_closed.nd rfl (Or.inl rfl)) pgs_nil)))
        (pss_one (ps_expr (pe_bm PySem.F.plainAttrs_list PySem.F.slot_list_append PySem.F.type_list_append mt_append (pv 3) (pa_cons (pe_tup (pa_cons (pv 4) (pa_cons (pe_callTy (crTup (K := K) rfl) (by rfl) T.tuple (by decide +kernel) (pa_cons (pe_lc (own := [("other", 6)]) rfl sc_closed.nd (piTup (K := K) rfl (pv 5)) (blkOk_by (own := [("other", 6)]) (N := N_closed) (sc := defScope s_closed) (by decide +kernel)) (fun _ _ _ _ _ => (pg_name (i := 6) sc_closed.nd rfl (Or.inl rfl))) (fun _ _ _ _ _ => pts_one (PW.pt (pw_or (pt_cmpR op_ne (pv 4) (pv 1) (nomark _)) (pw_or1 (pt_cmpR op_ne (pv 6) (pv 2) (nomark _)))))) (fun _ _ _ _ _ => (pv 6))) pa_nil)) pa_nil))) pa_nil)))))
      (pss_one (ps_ret (pe_tup (pa_cons pe_str (pa_cons (pe_callTy (crTupF (K := K) rfl) (by rfl) T.tuple (by decide +kernel) (pa_cons (pv 3) pa_nil)) pa_nil))))))))))), ?_⟩
    have nd := asc_nodup gc.cur.asc
    obtain ⟨b0, kvs, hab0, hdict, hval⟩ := cal_dict (K := K) hc nd
    obtain ⟨b, o, ps, qs, ha, hb, hod, lp, lq, hat⟩ := hc.ex
    obtain ⟨q0, v0, t0⟩ := hval r hr0
    rw [dz_of nd hr0] at hd
    have l4 := gc.cur.l4
    rw [List.length_map] at l4
    refine q_when (b := false) (et_is (et_not (et_B (ev_callB (ea_cons (ev_var rfl) ea_nil) fun H1 e1 => ⟨a, rows, rfl, hc.mono e1, gc⟩))) rfl) (fun z => by cases z) (fun _ H1 e1 => ?_)
    refine q_when (b := false) (et_is (et_or (et_not (et_B (ev_callB (ea_cons (ev_var rfl) ea_nil) fun _ _ => ⟨r.1, rfl, gc.cur.nm _ (List.mem_map.mpr ⟨r, hr0, rfl⟩)⟩))) fun _ =>
      et_B (ed_dnotin (k := Sum.inr r.1) (ev_var (v := kV (Sum.inr r.1)) rfl) (hdict rfl e1))) (by rw [v0]; rfl)) (fun z => by cases z) (fun _ H2 e2 => ?_)
    refine q_when (b := false) (et_is (et_not (et_B (ev_callB (ea_cons (ev_var rfl) ea_nil) fun _ _ => ⟨d, rfl, d0, d4⟩))) rfl) (fun z => by cases z) (fun _ H3 e3 => ?_)
    have e13 := (e1.trans e2).trans e3
    refine q_when (b := false) (et_is (et_test (ev_op (ev_var rfl) (ed_dget (k := Sum.inr r.1) (hdict rfl e13) (ev_var rfl) v0) (rv_niT (st_of (e13 _ _ t0)) rfl (by simp [flatV])))) (by rw [inV_ints, decide_eq_true hd]; rfl)) (fun z => by cases z) (fun _ H4 e4 => ?_)
    have e14 := e13.trans e4
    -- rows = []
    refine q_asgL (xs := []) (el_lst ea_nil (Nat.zero_le _)) fun l H5 hl0 e5 hl => ?_
    have e15 := e14.trans e5
    have nl : H l = none := fresh_back e14 hl0
    -- for name, days in calendar[1]
    have ixb : Ev (tOp (rIxT K) (tVar 0) (tC (.int 1))) [some (.ref a), some (.str r.1), some (.int d), some (.ref l), none, none, none] H5 (.ref b) := ev_op (ev_var rfl) ev_c (rv_ixT (st_of (e15 _ _ ha)) (at_of (j := 1) rfl rfl))
    refine ixb H5 (Ex.refl _) _ fun H6 e6 => ?_
    have e16 := e15.trans e6
    refine ⟨b, rfl, ⟨_, Or.inl (Or.inr ⟨o, e16 _ _ hb⟩)⟩, ?_⟩
    refine for_tup (xs := ps.map V.ref) (fun i σ' H' => ∃ (y4 y5 : Option V) (acc bcc : List Addr), σ' = [some (.ref a), some (.str r.1), some (.int d), some (.ref l), y4, y5, none] ∧ Ex H H' ∧ H' l = some (.lst (acc.map V.ref)) ∧ acc.length = i ∧ bcc.length = i ∧
      ∀ (j : Nat) p q r', acc[j]? = some p → bcc[j]? = some q → rows[j]? = some r' → RowAt H' p q (minusR r.1 d r')) ⟨none, none, [], [], rfl, e16, e6 _ _ hl, rfl, rfl, fun j p q r' h => by simp at h⟩ (fun i σ' H' _ p => ?_) (fun i x σ' H' hi p => ?_) fun σ' H' p => ?_
    · obtain ⟨_, _, _, _, _, e, _⟩ := p
      exact Or.inl (Or.inr ⟨o, e _ _ hb⟩)
    · obtain ⟨y4, y5, acc, bcc, rfl, e, hl', la, lb, hat'⟩ := p
      obtain ⟨pp, hpp, rfl⟩ := map_at hi
      have hii : i < rows.length := by
        have := (List.getElem?_eq_some_iff.mp hpp).1
        omega
      obtain ⟨ri, hri⟩ := get_of (l := rows) rfl hii
      obtain ⟨qi, hqi⟩ := get_of lq hii
      obtain ⟨h1, h2⟩ := (hat i pp qi ri hpp hqi hri).ex e
      have gd := gc.days ri (List.mem_of_getElem? hri)
      have l1000 := gd.l1000
      refine ⟨pp, [.str ri.1, .ref qi], rfl, st_of h1, rfl, .str ri.1, [.ref qi], rfl, .ref qi, [], rfl, rfl, ?_⟩
      have key := el_lcT (K := K) (te := tVar 6) (t := tOr (tTest (tOp rNe (tVar 4) (tVar 1))) (tTest (tOp rNe (tVar 6) (tVar 2)))) (σ := [some (.ref a), some (.str r.1), some (.int d), some (.ref l), some (.str ri.1), some (.ref qi), none]) (H := H') (j := 6) (vs := [6])
        (tl := tVar 5) (fun k => decide (ri.1 ≠ r.1) || decide (ri.2.getD k 0 ≠ d)) (fun k => .int (ri.2.getD k 0)) (eq_ev (ev_var rfl) (st_of h2)) (by rw [List.length_map]; omega) (fun _ => rfl)
        (fun k x H7 e7 hx => by
          obtain ⟨n, hn, rfl⟩ := map_at hx
          rw [show ri.2.getD k 0 = n by rw [List.getD_eq_getElem?_getD, hn]; rfl]
          refine et_is (et_or (et_test (ev_op (ev_var rfl) (ev_var rfl) (rv_ne rfl))) fun _ => et_test (ev_op (ev_var rfl) (ev_var rfl) (rv_ne rfl))) ?_
          congr 1
          · by_cases z : ri.1 = r.1
            · rw [decide_eq_true (show V.str ri.1 = V.str r.1 by rw [z]), decide_eq_false (fun h => h z)]
              rfl
            · rw [decide_eq_false (fun h => z (V.str.inj h)), decide_eq_true z]
              rfl
          · by_cases z : n = d
            · rw [decide_eq_true (show V.int n = V.int d by rw [z]), decide_eq_false (fun h => h z)]
              rfl
            · rw [decide_eq_false (fun h => z (V.int.inj h)), decide_eq_true z]
              rfl)
        (fun k x H7 e7 hx _ => by
          obtain ⟨n, hn, rfl⟩ := map_at hx
          rw [show ri.2.getD k 0 = n by rw [List.getD_eq_getElem?_getD, hn]; rfl]
          exact ev_var rfl)
      rw [List.length_map, given_filter (0 : Int) (fun n => decide (ri.1 ≠ r.1) || decide (n ≠ d)) V.int] at key
      refine s_appG hl' (ev_var rfl) (gv_tup2 (ev_var rfl) (eu_tupOf key)) (by rw [List.length_map]; omega) fun v H7 e7 hv => ?_
      obtain ⟨p2, q2, rfl, hp2, hq2⟩ := hv
      have hl7 : H7 l = some (.lst (acc.map V.ref)) := e7 _ _ hl'
      refine ⟨some (.str ri.1), some (.ref qi), acc ++ [p2], bcc ++ [q2], rfl, Ex.mut (e.trans e7) nl, ?_, by simp [la], by simp [lb], fun j p q r' a1 a2 a3 => ?_⟩
      · rw [upd_same, List.map_append]
        rfl
      · refine rowAt_upd hl7 ?_
        by_cases hj : j < i
        · rw [List.getElem?_append_left (by omega)] at a1 a2
          exact (hat' j p q r' a1 a2 a3).ex e7
        · have hj2 : j = i := by
            have := (List.getElem?_eq_some_iff.mp a1).1
            rw [List.length_append, List.length_singleton] at this
            omega
          subst hj2
          rw [List.getElem?_append_right (by omega), la, Nat.sub_self] at a1
          rw [List.getElem?_append_right (by omega), lb, Nat.sub_self] at a2
          rw [hri] at a3
          cases a1
          cases a2
          cases a3
          exact ⟨hp2, hq2⟩
    · obtain ⟨y4, y5, acc, bcc, rfl, e, hl', la, lb, hat'⟩ := p
      rw [List.length_map] at la lb
      -- return
      refine ⟨.ref l, rfl, l, _, rfl, sq_of hl', fun tt oo htt hoo => ?_⟩
      refine ⟨(by show 2 ≤ sizeLine; decide), fun pr hpr => ?_⟩
      have x1 : Ex H' (upd H' tt (.frz oo (.tup (acc.map V.ref)))) := Ex.new htt
      have x2 := x1.trans (Ex.new (o := .tup [.str "calendar", .ref tt]) hpr)
      have ntp : tt ≠ pr := ne_of_none upd_same hpr
      refine q pr _ (e.trans x2) ⟨tt, oo, acc, bcc, upd_same, ?_, hoo, by rw [la, lp]; exact (List.length_map ..).symm, by rw [lb, lp]; exact (List.length_map ..).symm, fun j p q r' a1 a2 a3 => ?_⟩
      · rw [upd_ne ntp]
        exact upd_same
      · obtain ⟨r2, b1, rfl⟩ := map_at a3
        exact (hat' j p q r2 a1 a2 b1).ex x2
end
end N56
namespace N56
open PySem PySem.Spec PyProof.Rows L2 Evl
theorem opNeD {X : Cx} {K : PySem.W.Frag} (e : X.K = K) (hu : X.A.units + 64 < cLine) : OpR X (compareOp .NotEq) (rNeD K) := by
  subst e
  exact op_neD hu
theorem ixS {X : Cx} {K : PySem.W.Frag} (e : X.K = K) : IxR X (rIx K) := by
  subst e
  exact ix_seq
def rListS' (K : PySem.W.Frag) : List V → Hp → VK → Prop := fun xs H Q => ∃ p ys, xs = [.ref p] ∧ (SqL K H p ys ∨ SqT K H p ys) ∧ ∀ l, H l = none → Q (.ref l) (upd H l (.lst ys))
theorem crList {X : Cx} {K : PySem.W.Frag} (e : X.K = K) : CallR X (.type "list") (rListS' K) := by
  subst e
  exact call_list_of
theorem crSortS {X : Cx} {K : PySem.W.Frag} (e : X.K = K) : CallR X (.builtin "sorted") (rSortedS K) := by
  subst e
  exact cr_sortedS
/-! ### the source of draws -/
abbrev kLarge : Key := Sum.inr "large"
abbrev kCells : Key := Sum.inr "cells"
abbrev kRest : Key := Sum.inr "rest"
abbrev kTurn : Key := Sum.inr "turn"
theorem ne_lr : ¬ kLarge = kRest := by decide +kernel
theorem ne_lt : ¬ kLarge = kTurn := by decide +kernel
theorem ne_cr : ¬ kCells = kRest := by decide +kernel
theorem ne_ct : ¬ kCells = kTurn := by decide +kernel
theorem ne_rt : ¬ kRest = kTurn := by decide +kernel
theorem ne_tr : ¬ kTurn = kRest := by decide +kernel
/-- the draws at a: the large numbers at l, the cells at c; at most N turns so far -/
structure Dr (a l c : Addr) (N : Nat) (H : Hp) : Prop where
  ex : ∃ (kvs : List (Key × V)) (lg cs : List Int) (rest turn : Int), H a = some (.dK kvs) ∧ kvs.length ≤ 100 ∧ valV kvs kLarge = some (.ref l) ∧ valV kvs kCells = some (.ref c) ∧ valV kvs kRest = some (.int rest) ∧ valV kvs kTurn = some (.int turn) ∧
    H l = some (.lst (lg.map V.int)) ∧ H c = some (.lst (cs.map V.int)) ∧ l ≠ c ∧ (∀ x ∈ lg, 0 ≤ x) ∧ (∀ x ∈ cs, 0 ≤ x) ∧ 0 ≤ rest ∧ 0 ≤ turn ∧ turn ≤ (N : Int) ∧ lg.length ≤ 100 ∧ cs.length ≤ 100
/-- all but the draws' own dict and list stands -/
def ExD (a l : Addr) (H H' : Hp) : Prop := ∀ b o, H b = some o → b ≠ a → b ≠ l → H' b = some o
theorem ExD.refl {a l : Addr} (H : Hp) : ExD a l H H := fun _ _ h _ _ => h
theorem ExD.trans {a l : Addr} {H H1 H2 : Hp} (x : ExD a l H H1) (y : ExD a l H1 H2) : ExD a l H H2 := fun b o h n1 n2 => y b o (x b o h n1 n2) n1 n2
theorem ExD.of {a l : Addr} {H H' : Hp} (e : Ex H H') : ExD a l H H' := fun b o h _ _ => e b o h
theorem Dr.mono {a l c : Addr} {N : Nat} {H H' : Hp} (h : Dr a l c N H) (e : Ex H H') : Dr a l c N H' := by
  obtain ⟨kvs, lg, cs, rest, turn, h1, h2, h3, h4, h5, h6, h7, h8, h9⟩ := h.ex
  exact ⟨kvs, lg, cs, rest, turn, e _ _ h1, h2, h3, h4, h5, h6, e _ _ h7, e _ _ h8, h9⟩
theorem Dr.up {a l c : Addr} {N M : Nat} {H : Hp} (h : Dr a l c N H) (hm : N ≤ M) : Dr a l c M H := by
  obtain ⟨kvs, lg, cs, rest, turn, h1, h2, h3, h4, h5, h6, h7, h8, h9, h10, h11, h12, h13, h14, h15⟩ := h.ex
  exact ⟨kvs, lg, cs, rest, turn, h1, h2, h3, h4, h5, h6, h7, h8, h9, h10, h11, h12, h13, by omega, h15⟩
theorem putK_len {kvs : List (Key × V)} {k : Key} {v w : V} (h : valV kvs k = some w) : (putK kvs k v).length = kvs.length := by
  unfold putK
  rw [valV_any, h]
  rw [if_pos (show (some w).isSome = true from rfl), List.length_map]
theorem Dr.rest {a l c : Addr} {N : Nat} {H : Hp} (h : Dr a l c N H) {v : Int} (hv : 0 ≤ v) : ∃ kvs, H a = some (.dK kvs) ∧ kvs.length < sizeLine ∧ Dr a l c N (upd H a (.dK (putK kvs kRest (.int v)))) ∧ ExD a l H (upd H a (.dK (putK kvs kRest (.int v)))) := by
  obtain ⟨kvs, lg, cs, rest, turn, h1, h2, h3, h4, h5, h6, h7, h8, h9, h10, h11, h12, h13, h14, h15⟩ := h.ex
  have nl : l ≠ a := ne_of h7 h1 (by intro z; cases z)
  have nc : c ≠ a := ne_of h8 h1 (by intro z; cases z)
  refine ⟨kvs, h1, small1000 (by omega), ⟨putK kvs kRest (.int v), lg, cs, v, turn, upd_same, by rw [putK_len h5]; exact h2, by rw [valV_put, if_neg ne_lr]; exact h3, by rw [valV_put, if_neg ne_cr]; exact h4, by rw [valV_put, if_pos rfl],
    by rw [valV_put, if_neg ne_tr]; exact h6, by rw [upd_ne nl]; exact h7, by rw [upd_ne nc]; exact h8, h9, h10, h11, hv, h13, h14, h15⟩, fun b o e n1 n2 => by rw [upd_ne n1]; exact e⟩
theorem Dr.turn {a l c : Addr} {N : Nat} {H : Hp} (h : Dr a l c N H) {v : Int} (hv : 0 ≤ v) (hn : v ≤ (N : Int) + 1) : ∃ kvs, H a = some (.dK kvs) ∧ kvs.length < sizeLine ∧ Dr a l c (N + 1) (upd H a (.dK (putK kvs kTurn (.int v)))) ∧ ExD a l H (upd H a (.dK (putK kvs kTurn (.int v)))) := by
  obtain ⟨kvs, lg, cs, rest, turn, h1, h2, h3, h4, h5, h6, h7, h8, h9, h10, h11, h12, h13, h14, h15⟩ := h.ex
  have nl : l ≠ a := ne_of h7 h1 (by intro z; cases z)
  have nc : c ≠ a := ne_of h8 h1 (by intro z; cases z)
  refine ⟨kvs, h1, small1000 (by omega), ⟨putK kvs kTurn (.int v), lg, cs, rest, v, upd_same, by rw [putK_len h6]; exact h2, by rw [valV_put, if_neg ne_lt]; exact h3, by rw [valV_put, if_neg ne_ct]; exact h4, by rw [valV_put, if_neg ne_rt]; exact h5,
    by rw [valV_put, if_pos rfl], by rw [upd_ne nl]; exact h7, by rw [upd_ne nc]; exact h8, h9, h10, h11, h12, hv, by omega, h15⟩, fun b o e n1 n2 => by rw [upd_ne n1]; exact e⟩
section
variable {K : PySem.W.Frag} {σ : L2.St} {H H' : Hp} {ta tb te tx td ty : TE} {t u : TT} {x y z v : V} {tr : TA} {D : Ends} {tz : TS}
/-! ### ints -/
theorem ev_mul {i j : Int} (ha : Ev ta σ H (.int i)) (hb : Ev tb σ H (.int j)) (hc : CMul i j) : Ev (tOp (rI CMul fun i j => .int (i * j)) ta tb) σ H (.int (i * j)) := ev_op ha hb (rv_I hc)
theorem ev_fdiv {i j : Int} (ha : Ev ta σ H (.int i)) (hb : Ev tb σ H (.int j)) (hc : CDiv i j) : Ev (tOp (rI CDiv fun i j => .int (i / j)) ta tb) σ H (.int (i / j)) := ev_op ha hb (rv_I hc)
theorem ev_mod {i j : Int} (ha : Ev ta σ H (.int i)) (hb : Ev tb σ H (.int j)) (hc : 0 < j) : Ev (tOp (rI (fun _ j => 0 < j) fun i j => .int (i % j)) ta tb) σ H (.int (i % j)) := ev_op ha hb (rv_I hc)
theorem ev_pow {i j : Int} (ha : Ev ta σ H (.int i)) (hb : Ev tb σ H (.int j)) (hc : CPow i j) : Ev (tOp (rI CPow fun i j => .int (i ^ j.toNat)) ta tb) σ H (.int (i ^ j.toNat)) := ev_op ha hb (rv_I hc)
theorem ev_int {i : Int} (ha : Ev ta σ H (.int i)) : Ev (tCB (fun xs H Q => (∃ i, xs = [.int i] ∧ Q (.int i) H) ∨ ∃ k, xs = [.bl k] ∧ Q (.int (if k then 1 else 0)) H) (tCons ta tNil)) σ H (.int i) := fun H1 e Q q => by
  refine ha H1 e _ fun H2 e2 => ?_
  exact Or.inl ⟨i, rfl, q H2 e2⟩
theorem ev_abs {i : Int} (ha : Ev ta σ H (.int i)) : Ev (tCB (fun xs H Q => ∃ i, xs = [.int i] ∧ Q (.int (if i < 0 then -i else i)) H) (tCons ta tNil)) σ H (.int (if i < 0 then -i else i)) := fun H1 e Q q => by
  refine ha H1 e _ fun H2 e2 => ?_
  exact ⟨i, rfl, q H2 e2⟩
/-- xs != [] -/
theorem ev_neNil {p : Addr} {xs : List V} {ds : List PyData} (ha : Ev ta σ H (.ref p)) (hp : H p = some (.lst xs)) (hd : DpAll K H xs ds) (hds : ∀ H1, Ex H H1 → DpAll K H1 xs ds) (hs : SeqAt.shaped (.list ds) = true) : Ev (tOp (rNeD K) ta (tLst tNil)) σ H (.bl (!xs.isEmpty)) := fun H1 e Q q => by
  refine ha H1 e _ fun H2 e2 => ?_
  refine ⟨Nat.zero_le _, fun n hn => ?_⟩
  have x1 : Ex H2 (upd H2 n (.lst [])) := Ex.new hn
  have e3 := (e.trans e2).trans x1
  refine ⟨.list ds, .list [], .lst (sq_of (e3 _ _ hp)) (hds _ e3), .lst (sq_of upd_same) .nil, hs, by decide, ?_⟩
  have eb : PyData.eqv (.list ds) (.list []) = xs.isEmpty := by
    cases xs with
    | nil =>
      cases hd
      rfl
    | cons x r =>
      cases hd
      rfl
  rw [eb]
  exact q _ (e2.trans x1)
theorem dp_ints (H : Hp) : ∀ ns : List Int, DpAll K H (ns.map V.int) (ns.map PyData.int)
  | [] => .nil
  | n :: r => .cons (.int n) (dp_ints H r)
theorem canLay_ints : ∀ ns : List Int, PyData.canLayAll0 (ns.map PyData.int) = true
  | [] => by simp [PyData.canLayAll0]
  | n :: r => by
    rw [List.map_cons, PyData.canLayAll0, canLay_ints r]
    simp [PyData.canLay0]
theorem depth_ints : ∀ ns : List Int, PyData.depthAll (ns.map PyData.int) = 0
  | [] => by simp [PyData.depthAll]
  | n :: r => by
    rw [List.map_cons, PyData.depthAll, depth_ints r]
    simp [PyData.depth]
theorem shaped_ints (ns : List Int) : SeqAt.shaped (.list (ns.map PyData.int)) = true := by
  unfold SeqAt.shaped
  rw [PyData.canLay0, canLay_ints, PyData.depth, depth_ints]
  rfl
end
/-- a number drawn -/
def spBlend : Sp := fun vs H Q _ => ∃ a l c N, vs = [.ref a] ∧ Dr a l c N H ∧ N < 1000000 ∧ ∀ v H', 0 ≤ v → Dr a l c (N + 1) H' → ExD a l H H' → Q (.int v) H'
def spTake : Sp := fun vs H Q _ => ∃ a l c N size, vs = [.ref a, .int size] ∧ Dr a l c N H ∧ N < 1000000 ∧ 0 < size ∧ size < 100000 ∧ ∀ v H', 0 ≤ v → v < size → Dr a l c (N + 1) H' → ExD a l H H' → Q (.int v) H'
section
variable {P : Program} {w : World} {K : PySem.W.Frag} {mg : Str → Option Value} {base : Heap} {f : Addr} {fd : FuncData} {aK : Addr} {tL : Tok}
theorem mulL {i : Int} (h0 : 0 ≤ i) (h1 : i < 2 ^ 40) (j : Int) : CMul i j := Or.inl ⟨by omega, by omega⟩
theorem ok__law_blend (F : Fun K "_law_blend" "_law_blend" s__law_blend f fd) (T : Tx K mg aK tL) : FnOk P w K mg base CX0 1 f fd ["draw"] spBlend := by
  refine F.ok sc__law_blend (fun vs H Q E h => ?_) (fun cdv A outer s H vs Q E hr h => ?_)
  · obtain ⟨a, l, c, N, rfl, _⟩ := h
    rfl
  · obtain ⟨a, l, c, N, rfl, hD, hN, q⟩ := h
    have hu := hu_of hr
    refine ⟨_, (pss_cons (ps_par (i := 1) (j := 2) (by rfl) sc__law_blend.nd rfl rfl (by decide) rfl rfl (pa_cons (pe_op op_add (pe_dget hu (pv 0) pe_str (fun _ _ => rfl)) pe_int) (pa_cons pe_int pa_nil)) (by rfl))
      (pss_cons (ps_dput hu (pv 0) pe_str (pv 1) rfl)
      (pss_cons (ps_for PassesOwn.never rfl (piLst (K := K) rfl (pe_lst (pa_cons pe_int (pa_cons pe_int (pa_cons pe_int pa_nil))))) (pg_name (i := 3) sc__law_blend.nd rfl (Or.inl rfl))
        (pss_cons (ps_set (i := 4) sc__law_blend.nd rfl (Or.inl rfl) (pe_op op_mod (pe_callTy call_int1 (by rfl) T.int (by decide +kernel) (pa_cons (pe_op op_add (pe_op op_mul (pv 1) pe_int) (pe_op op_fdiv (pv 3) pe_int)) pa_nil)) (pv 3)))
      (pss_cons (ps_for PassesOwn.never rfl (piLst (K := K) rfl (pe_dget hu (pv 0) pe_str (fun _ _ => rfl))) (pg_name (i := 5) sc__law_blend.nd rfl (Or.inl rfl))
        (pss_one (ps_set (i := 4) sc__law_blend.nd rfl (Or.inl rfl) (pe_op op_mod (pe_callTy call_int1 (by rfl) T.int (by decide +kernel) (pa_cons (pe_op op_add (pe_op op_add (pe_op op_mul (pv 4) pe_int) (pv 5)) (pv 1)) pa_nil)) (pv 3)))))
      (pss_one (ps_set (i := 2) sc__law_blend.nd rfl (Or.inl rfl) (pe_op op_add (pe_op op_mul (pv 2) pe_int) (pe_op op_mod (pe_callTy call_int1 (by rfl) T.int (by decide +kernel) (pa_cons (pe_op op_pow (pv 4) pe_int) pa_nil)) (pv 3))))))))
      (pss_one (ps_ret (pv 2)))))), ?_⟩
    obtain ⟨kvs, lg, cs, rest, turn, h1, h2, h3, h4, h5, h6, h7, h8, h9, h10, h11, h12, h13, h14, h15, h16⟩ := hD.ex
    -- laps, found = draw['turn'] + 1, 0
    have hturn : Ev (tDGet (tVar 0) (tC (.str "turn"))) [some (.ref a), none, none, none, none, none] H (.int turn) := ev_dget (k := kTurn) (ev_var rfl) (ev_c (v := kV kTurn)) h1 h6
    refine q_par (ea_cons (ev_add hturn (ev_c (v := .int 1))) (ea_cons (ev_c (v := .int 0)) ea_nil)) fun H1 e1 => ?_
    -- draw['turn'] = laps
    refine q_dput (σ := [some (.ref a), some (.int (turn + 1)), some (.int 0), none, none, none]) (a := a) (k := kTurn) (v := .int (turn + 1)) (ev_var rfl) (ev_var rfl) (ev_c (v := kV kTurn)) fun H1' e1' => ?_
    have e11 := e1.trans e1'
    obtain ⟨kv2, g1, g2, g3, g4⟩ := (hD.mono e11).turn (v := turn + 1) (by omega) (by omega)
    refine ⟨kv2, g1, g2, ?_⟩
    generalize upd H1' a (.dK (putK kv2 kTurn (.int (turn + 1)))) = H2 at g3 g4
    obtain ⟨kv4, lg4, cs4, rest4, turn4, k1, k2, k3, k4, k5, k6, k7, k8, k9, k10, k11, k12⟩ := g3.ex
    -- the primes
    refine q_forQL (eql_of (el_lst (ea_cons (ev_c (v := .int 2147483629)) (ea_cons (ev_c (v := .int 2147483587)) (ea_cons (ev_c (v := .int 2147483579)) ea_nil))) (by show 3 ≤ 100000; omega)))
      (fun i σ' H' => ∃ (fo : Int) (y3 y4 y5 : Option V), σ' = [some (.ref a), some (.int (turn + 1)), some (.int fo), y3, y4, y5] ∧ 0 ≤ fo) (fun H3 _ => ⟨0, none, none, none, rfl, Int.le_refl 0⟩) ?_ ?_
    · rintro i x σ' H3 H' N' e3 hx e3' ⟨fo, y3, y4, y5, rfl, hfo⟩ hN'
      have e := e3.trans e3'
      obtain ⟨pr, rfl, hpr0, hpr1⟩ : ∃ pr : Int, x = .int pr ∧ 0 < pr ∧ pr < 2 ^ 32 := by
        have hm := List.mem_of_getElem? hx
        simp only [List.mem_cons, List.not_mem_nil, or_false] at hm
        rcases hm with rfl | rfl | rfl
        · exact ⟨_, rfl, by decide, by decide⟩
        · exact ⟨_, rfl, by decide, by decide⟩
        · exact ⟨_, rfl, by decide, by decide⟩
      -- stirred
      refine q_asg (v := .int (((turn + 1) * 69621 + pr / 13) % pr)) (σ := [some (.ref a), some (.int (turn + 1)), some (.int fo), some (.int pr), y4, y5]) (ev_mod (ev_int (ev_add (ev_mul (ev_var rfl) ev_c (mulL (by omega) (by omega) _)) (ev_fdiv (ev_var rfl) ev_c ⟨by decide, by decide⟩))) (ev_var rfl) hpr0) fun H5 e5 => ?_
      have hst0 := Int.emod_nonneg ((turn + 1) * 69621 + pr / 13) (show pr ≠ 0 by omega)
      have hst1 := Int.emod_lt_of_pos ((turn + 1) * 69621 + pr / 13) hpr0
      generalize ((turn + 1) * 69621 + pr / 13) % pr = st at hst0 hst1
      -- for cell in draw['cells']
      refine q_forQL (σ := [some (.ref a), some (.int (turn + 1)), some (.int fo), some (.int pr), some (.int st), y5]) (xs := cs4.map V.int) (eql_ev (ev_dget (k := kCells) (ev_var rfl) (ev_c (v := kV kCells)) ((e.trans e5) _ _ k1) k4) (sq_of ((e.trans e5) _ _ k8)))
        (fun i σ' H' => ∃ (st' : Int) (y5' : Option V), σ' = [some (.ref a), some (.int (turn + 1)), some (.int fo), some (.int pr), some (.int st'), y5'] ∧ 0 ≤ st' ∧ st' < pr) (fun H6 _ => ⟨st, y5, rfl, hst0, hst1⟩) ?_ ?_
      · rintro j y σ'' H6 H'' N'' e6 hy e6' ⟨st', y5', rfl, s0, s1⟩ hN''
        obtain ⟨ce, hce, rfl⟩ := map_at hy
        have hce0 := k11 ce (List.mem_of_getElem? hce)
        refine s_asg (v := .int ((st' * 48271 + ce + (turn + 1)) % pr)) (σ := [some (.ref a), some (.int (turn + 1)), some (.int fo), some (.int pr), some (.int st'), some (.int ce)]) (ev_mod (ev_int (ev_add (ev_add (ev_mul (ev_var rfl) ev_c (mulL s0 (by omega) _)) (ev_var rfl)) (ev_var rfl))) (ev_var rfl) hpr0) fun H7 e7 => ?_
        exact hN'' _ _ e7 ⟨_, _, rfl, Int.emod_nonneg _ (by omega), Int.emod_lt_of_pos _ hpr0⟩
      · rintro σ'' H'' e6 ⟨st', y5', rfl, s0, s1⟩
        -- found
        refine s_asg (v := .int (fo * 2147483647 + st' ^ (5 : Int).toNat % pr)) (ev_add (ev_mul (ev_var rfl) ev_c (Or.inr ⟨by decide, by decide⟩)) (ev_mod (ev_int (ev_pow (ev_var rfl) ev_c ⟨by decide, by decide, by omega⟩)) (ev_var rfl) hpr0)) fun H7 e7 => ?_
        refine hN' _ _ ((e5.trans e6).trans e7) ⟨_, _, _, _, rfl, ?_⟩
        have := Int.emod_nonneg (st' ^ (5 : Int).toNat) (show pr ≠ 0 by omega)
        omega
    · rintro σ' H' e ⟨fo, y3, y4, y5, rfl, hfo⟩
      refine s_ret (v := .int fo) (ev_var rfl) fun H4 e4 => ?_
      have e24 := e.trans e4
      exact q fo H4 hfo (g3.mono e24) (((ExD.of e11).trans g4).trans (ExD.of e24))
end
end N56
namespace N56
open PySem PySem.Spec PyProof.Rows L2 Evl
theorem ExD.dK {a l b : Addr} {H H' : Hp} {xs : List V} (e : ExD a l H H') (h : H b = some (.tup xs)) {kvs : List (Key × V)} {ys : List V} (ha : H a = some (.dK kvs)) (hl : H l = some (.lst ys)) : H' b = some (.tup xs) :=
  e b _ h (ne_of h ha (by intro z; cases z)) (ne_of h hl (by intro z; cases z))
section
variable {K : PySem.W.Frag} {σ : L2.St} {H H' : Hp} {ta tb te tx td ty : TE} {t u : TT} {x y z v : V} {tr : TA} {D : Ends} {tz : TS}
/-- if c: .. , then the rest, by a word on the way -/
theorem q_ifM {b : Bool} {c : TT} {tu : TS} (hc : EvT c σ H b) (M : Hp → Prop) (h1 : b = true → ∀ H1, Ex H H1 → tu { D with nx := fun σ' H' => σ' = σ ∧ M H' } σ H1) (h2 : b = false → ∀ H1, Ex H H1 → M H1) (k : ∀ H1, M H1 → tz D σ H1)
    (hmono : ∀ N N' : L2.St → Hp → Prop, (∀ σ' H', N σ' H' → N' σ' H') → ∀ H1, tu { D with nx := N } σ H1 → tu { D with nx := N' } σ H1) : tSeq (tIfS c tu tNext) tz D σ H := by
  refine hc H (Ex.refl H) _ fun H1 e1 => ?_
  cases b with
  | true =>
    rw [if_pos rfl]
    refine hmono _ _ ?_ H1 (h1 rfl H1 e1)
    rintro σ' H' ⟨rfl, m⟩
    exact k H' m
  | false =>
    rw [if_neg Bool.false_ne_true]
    exact k H1 (h2 rfl H1 e1)
end
section
variable {P : Program} {w : World} {K : PySem.W.Frag} {mg : Str → Option Value} {base : Heap} {f : Addr} {fd : FuncData} {aK : Addr} {tL : Tok}
theorem ok__law_take (F : Fun K "_law_take" "_law_take" s__law_take f fd) (T : Tx K mg aK tL) (c__law_blend : Cal P w K mg base CX0 1 "_law_blend" ["draw"] spBlend) : FnOk P w K mg base CX0 2 f fd ["draw", "size"] spTake := by
  refine F.ok sc__law_take (fun vs H Q E h => ?_) (fun cdv A outer s H vs Q E hr h => ?_)
  · obtain ⟨a, l, c, N, size, rfl, _⟩ := h
    rfl
  · obtain ⟨a, l, c, N, size, rfl, hD, hN, s0, s1, q⟩ := h
    have hu := hu_of hr
    refine ⟨_, (pss_cons (ps_if (pt_cmpR op_eq (pe_dget hu (pv 0) pe_str (fun _ _ => rfl)) pe_int (nomark _))
        (pss_one (ps_dput hu (pv 0) pe_str (pe_ifExp (pt_cmpR (opNeD (K := K) rfl hr.units) (pe_dget hu (pv 0) pe_str (fun _ _ => rfl)) (pe_lst pa_nil) (nomark _)) (pe_bm PySem.F.plainAttrs_list PySem.F.slot_list_pop PySem.F.type_list_pop mt_popAt (pe_dget hu (pv 0) pe_str (fun _ _ => rfl)) (pa_cons pe_int pa_nil)) (pe_cl c__law_blend hr (by decide) (by rfl) (pa_cons (pv 0) pa_nil))) rfl))
        pss_nil)
      (pss_cons (ps_set (i := 2) sc__law_take.nd rfl (Or.inl rfl) (pe_op op_mod (pe_callTy call_int1 (by rfl) T.int (by decide +kernel) (pa_cons (pe_dget hu (pv 0) pe_str (fun _ _ => rfl)) pa_nil)) (pv 1)))
      (pss_cons (ps_dput hu (pv 0) pe_str (pe_op op_fdiv (pe_callTy call_int1 (by rfl) T.int (by decide +kernel) (pa_cons (pe_dget hu (pv 0) pe_str (fun _ _ => rfl)) pa_nil)) (pv 1)) rfl)
      (pss_one (ps_ret (pv 2)))))), ?_⟩
    -- what follows the if
    have fin : ∀ (H2 : Hp) (t : TS), Dr a l c (N + 1) H2 → ExD a l H H2 → tSeq (tAsg (tOp (rI (fun _ j => 0 < j) fun i j => .int (i % j)) (tCB (fun xs H Q => (∃ i, xs = [.int i] ∧ Q (.int i) H) ∨ ∃ k, xs = [.bl k] ∧ Q (.int (if k then 1 else 0)) H) (tCons (tDGet (tVar 0) (tC (.str "rest"))) tNil)) (tVar 1)) (gName 2))
        (tSeq (sDPut (tVar 0) (tC (.str "rest")) (tOp (rI CDiv fun i j => .int (i / j)) (tCB (fun xs H Q => (∃ i, xs = [.int i] ∧ Q (.int i) H) ∨ ∃ k, xs = [.bl k] ∧ Q (.int (if k then 1 else 0)) H) (tCons (tDGet (tVar 0) (tC (.str "rest"))) tNil)) (tVar 1))) (tRet (tVar 2)))
        { nx := fun _ H' => Q .non H', rt := Q } [some (.ref a), some (.int size), none] H2 := fun H2 _ d2 e2 => by
      obtain ⟨kvs, lg, cs, rest, turn, h1, h2, h3, h4, h5, h6, h7, h8, h9, h10, h11, h12, h13⟩ := d2.ex
      have hget : ∀ (H3 : Hp) (y : Option V), Ex H2 H3 → Ev (tDGet (tVar 0) (tC (.str "rest"))) [some (.ref a), some (.int size), y] H3 (.int rest) := fun H3 y e => ev_dget (k := kRest) (ev_var rfl) (ev_c (v := kV kRest)) (e _ _ h1) h5
      refine q_asg (v := .int (rest % size)) (ev_mod (ev_int (hget H2 none (Ex.refl _))) (ev_var rfl) s0) fun H3 e3 => ?_
      refine q_dput (σ := [some (.ref a), some (.int size), some (.int (rest % size))]) (a := a) (k := kRest) (v := .int (rest / size)) (ev_fdiv (ev_int (hget H3 _ e3)) (ev_var rfl) ⟨s0, by omega⟩) (ev_var rfl) (ev_c (v := kV kRest)) fun H4 e4 => ?_
      have e24 := e3.trans e4
      obtain ⟨kv5, g1, g2, g3, g4⟩ := (d2.mono e24).rest (v := rest / size) (Int.ediv_nonneg h12 (by omega))
      refine ⟨kv5, g1, g2, ?_⟩
      refine s_ret (v := .int (rest % size)) (ev_var rfl) fun H5 e5 => ?_
      exact q _ H5 (Int.emod_nonneg _ (by omega)) (Int.emod_lt_of_pos _ s0) (g3.mono e5) (((e2.trans (ExD.of e24)).trans g4).trans (ExD.of e5))
    obtain ⟨kvs, lg, cs, rest, turn, h1, h2, h3, h4, h5, h6, h7, h8, h9, h10, h11, h12, h13, h14, h15, h16⟩ := hD.ex
    have hrest : Ev (tDGet (tVar 0) (tC (.str "rest"))) [some (.ref a), some (.int size), none] H (.int rest) := ev_dget (k := kRest) (ev_var rfl) (ev_c (v := kV kRest)) h1 h5
    refine (et_test (ev_op hrest ev_c (rv_eq rfl))) H (Ex.refl H) _ fun H1 e1 => ?_
    by_cases hz : rest = 0
    · rw [decide_eq_true (show V.int rest = V.int 0 by rw [hz]), if_pos rfl]
      have d1 := hD.mono e1
      -- the value
      have hlarge : ∀ (H3 : Hp), Ex H1 H3 → Ev (tDGet (tVar 0) (tC (.str "large"))) [some (.ref a), some (.int size), none] H3 (.ref l) := fun H3 e => ev_dget (k := kLarge) (ev_var rfl) (ev_c (v := kV kLarge)) ((e1.trans e) _ _ h1) h3
      have stored : ∀ (G : Hp → Prop), (∀ H4, Dr a l c (N + 1) H4 → ExD a l H H4 → G H4) → ∀ (v : Int) (H3 : Hp), 0 ≤ v → Dr a l c (N + 1) H3 → ExD a l H H3 →
          (tVar 0 [some (.ref a), some (.int size), none] H3 fun x H2 => (tC (.str "rest")) [some (.ref a), some (.int size), none] H2 fun y H3 => ∃ a' H4, x = .ref a' ∧ DPut H3 a' y (.int v) H4 ∧ G H4) := fun G hG v H3 hv d3 e3 => by
        refine ⟨.ref a, rfl, ?_⟩
        obtain ⟨kv5, g1, g2, g3, g4⟩ := d3.rest hv
        exact ⟨a, _, rfl, DPut.k (k := kRest) g1 g2, hG _ g3 (e3.trans g4)⟩
      refine (et_test (ev_neNil (ds := lg.map PyData.int) (hlarge H1 (Ex.refl _)) (e1 _ _ h7) (dp_ints _ lg) (fun _ _ => dp_ints _ lg) (shaped_ints lg))) H1 (Ex.refl _) _ fun H2 e2 => ?_
      cases lg with
      | nil =>
        rw [show (!(([] : List Int).map V.int).isEmpty) = false from rfl, if_neg Bool.false_ne_true]
        -- blend
        refine ⟨.ref a, rfl, a, l, c, N, rfl, d1.mono e2, hN, fun v H3 hv d3 e3 => stored _ (fun H4 d e => fin H4 tNext d e) v H3 hv d3 ((ExD.of (e1.trans e2)).trans e3)⟩
      | cons x0 lr =>
        rw [show (!((x0 :: lr).map V.int).isEmpty) = true from rfl, if_pos rfl]
        -- pop(0)
        refine hlarge H1 (Ex.refl _) H2 e2 _ fun H3 e3 => ?_
        have e13 := (e1.trans e2).trans e3
        refine ⟨Or.inl ⟨rfl, _, sq_of (e13 _ _ h7)⟩, ?_⟩
        refine ⟨l, _, 0, 0, .int x0, rfl, rfl, e13 _ _ h7, by decide, by decide, ?_, rfl, ?_⟩
        · unfold seqIndex?
          rw [List.map_cons, List.length_cons]
          simp
        · have nal : a ≠ l := ne_of h1 h7 (by intro z; cases z)
          have e4 : ExD a l H (upd H3 l (.lst (((x0 :: lr).map V.int).eraseIdx 0))) := (ExD.of e13).trans fun b o hb n1 n2 => by rw [upd_ne n2]; exact hb
          refine stored _ (fun H4 d e => fin H4 tNext d e) x0 _ (h10 x0 List.mem_cons_self) ⟨kvs, lr, cs, rest, turn, by rw [upd_ne nal]; exact e13 _ _ h1, h2, h3, h4, h5, h6, upd_same, by rw [upd_ne (Ne.symm h9)]; exact e13 _ _ h8, h9, fun x hx => h10 x (List.mem_cons_of_mem _ hx), h11, h12, h13, by omega, ?_, h16⟩ e4
          rw [List.length_cons] at h15
          omega
    · rw [decide_eq_false (show ¬ V.int rest = V.int 0 from fun e => hz (V.int.inj e)), if_neg Bool.false_ne_true]
      exact fin H1 tNext ((hD.mono e1).up (by omega)) (ExD.of e1)
end
end N56
namespace N56
open PySem PySem.Spec PyProof.Rows L2 Evl
/-! ### names in order -/
theorem str_ne {x y : Str} (h : x ≠ y) : x.cps.toList ≠ y.cps.toList := fun e => h (by
  obtain ⟨⟨a⟩⟩ := x
  obtain ⟨⟨b⟩⟩ := y
  have e' : a = b := e
  rw [e'])
theorem rising_asc : ∀ (l : List Str) (p : Str), risingS p l = true → (p :: l).Nodup → AscS (p :: l)
  | [], p, _, _ => List.pairwise_singleton _ _
  | x :: r, p, h, hn => by
    obtain ⟨n1, n2⟩ := List.nodup_cons.mp hn
    have h' : (!ltCps x.cps.toList p.cps.toList && risingS x r) = true := h
    rw [Bool.and_eq_true, Bool.not_eq_true', ltCps_eq] at h'
    have ih := rising_asc r x h'.2 n2
    have hlt : p.cps.toList < x.cps.toList := Std.lt_of_le_of_ne (List.not_lt.mp (of_decide_eq_false h'.1)) (str_ne fun e => n1 (by rw [e]; exact List.mem_cons_self))
    refine List.pairwise_cons.mpr ⟨fun y hy => ?_, ih⟩
    rcases List.mem_cons.mp hy with e | e
    · rw [e]
      exact hlt
    · exact List.lt_trans hlt ((List.pairwise_cons.mp ih).1 y e)
theorem sorted_asc {l : List Str} (h : sortedS l = true) (hn : l.Nodup) : AscS l := by
  cases l with
  | nil => exact List.Pairwise.nil
  | cons x r => exact rising_asc r x h hn
abbrev poolL : List Str := ["a", "b", "c", "d", "e", "f", "g", "h", "ab", "ba", "xy", "zebra", "mn", "oak", "fir", "yew", "elm", "ash", "q", "rr"]
def goodB (x : Str) : Bool := decide (1 ≤ x.length) && decide (x.length ≤ 8) && !inV (.str x) (keptL.map V.str) && x.cps.toList.all fun c => decide (c ∈ lettersS.cps.toList)
theorem goodN_of {x : Str} (h : goodB x = true) : GoodN x := by
  unfold goodB at h
  simp only [Bool.and_eq_true, Bool.not_eq_true', decide_eq_true_eq, List.all_eq_true] at h
  exact ⟨h.1.1.1, h.1.1.2, h.1.2, fun c hc => h.2 c hc⟩
theorem pool_good : ∀ x ∈ poolL, GoodN x := fun x hx => goodN_of (List.all_eq_true.mp (by decide +kernel : poolL.all goodB = true) x hx)
theorem pool_nodup : poolL.Nodup := by decide +kernel
theorem pool_ok : ∀ x ∈ poolL, PyData.strOk x = true := fun x hx => List.all_eq_true.mp (by decide +kernel : poolL.all PyData.strOk = true) x hx
theorem dp_strs {K : PySem.W.Frag} (H : Hp) : ∀ zs : List Str, DpAll K H (zs.map V.str) (zs.map PyData.str)
  | [] => .nil
  | n :: r => .cons (.str n) (dp_strs H r)
theorem canLay_strs : ∀ zs : List Str, (∀ z ∈ zs, PyData.strOk z = true) → PyData.canLayAll0 (zs.map PyData.str) = true
  | [], _ => by simp [PyData.canLayAll0]
  | n :: r, h => by
    rw [List.map_cons, PyData.canLayAll0, canLay_strs r fun z hz => h z (List.mem_cons_of_mem _ hz), PyData.canLay0, h n List.mem_cons_self]
    rfl
theorem depth_strs : ∀ zs : List Str, PyData.depthAll (zs.map PyData.str) = 0
  | [] => by simp [PyData.depthAll]
  | n :: r => by
    rw [List.map_cons, PyData.depthAll, depth_strs r]
    simp [PyData.depth]
theorem shaped_strs {zs : List Str} (h : ∀ z ∈ zs, PyData.strOk z = true) : SeqAt.shaped (.list (zs.map PyData.str)) = true := by
  unfold SeqAt.shaped
  rw [PyData.canLay0, canLay_strs zs h, PyData.depth, depth_strs]
  rfl
/-! ### pick, shuffled, names -/
/-- a thing that stands: a list or a tuple that is not the draws' own -/
def Stood (a l : Addr) (p : Addr) (xs : List V) (H : Hp) : Prop := (H p = some (.lst xs) ∨ H p = some (.tup xs)) ∧ p ≠ a ∧ p ≠ l
theorem Stood.exD {a l p : Addr} {xs : List V} {H H' : Hp} (h : Stood a l p xs H) (e : ExD a l H H') : Stood a l p xs H' := by
  obtain ⟨h1, h2, h3⟩ := h
  rcases h1 with h1 | h1
  · exact ⟨.inl (e p _ h1 h2 h3), h2, h3⟩
  · exact ⟨.inr (e p _ h1 h2 h3), h2, h3⟩
theorem Stood.seq {K : PySem.W.Frag} {a l p : Addr} {xs : List V} {H : Hp} (h : Stood a l p xs H) : SqL K H p xs ∨ SqT K H p xs := by
  obtain ⟨h1 | h1, _⟩ := h
  · exact .inl (sq_of h1)
  · exact .inr (st_of h1)
def spPick : Sp := fun vs H Q _ => ∃ (a l c : Addr) (N : Nat) (p : Addr) (xs : List V), vs = [.ref a, .ref p] ∧ Dr a l c N H ∧ N < 1000000 ∧ Stood a l p xs H ∧ 0 < xs.length ∧ xs.length < 100000 ∧ ∀ x H', x ∈ xs → Dr a l c (N + 1) H' → ExD a l H H' → Q x H'
def spShuf : Sp := fun vs H Q _ => ∃ (a l c : Addr) (N : Nat) (p : Addr) (zs : List Str), vs = [.ref a, .ref p] ∧ Dr a l c N H ∧ N + 1000 < 1000000 ∧ Stood a l p (zs.map V.str) H ∧ zs.length ≤ 100 ∧ (∀ z ∈ zs, PyData.strOk z = true) ∧
  ∀ (q : Addr) (ys : List Str) (H' : Hp), ys.Perm zs → Dr a l c (N + zs.length) H' → ExD a l H H' → H q = none → H' q = some (.lst (ys.map V.str)) → Q (.ref q) H'
def spNames : Sp := fun vs H Q _ => ∃ (a l c : Addr) (N : Nat) (many : Int), vs = [.ref a, .int many] ∧ Dr a l c N H ∧ N + 2000 < 1000000 ∧ 1 ≤ many ∧ many ≤ 4 ∧
  ∀ (q : Addr) (zs : List Str) (H' : Hp), GoodCur zs → zs.length = many.toNat → Dr a l c (N + 20) H' → ExD a l H H' → H q = none → H' q = some (.lst (zs.map V.str)) → Q (.ref q) H'
section
variable {K : PySem.W.Frag} {σ : L2.St} {H H' : Hp} {ta tb te tx td ty : TE} {t u : TT} {x y z v : V} {tr : TA} {D : Ends} {tz : TS}
theorem ev_lenA {p : Addr} {xs : List V} (ha : Ev ta σ H (.ref p)) (h : ∀ H1, Ex H H1 → SqL K H1 p xs ∨ SqT K H1 p xs) : Ev (tCB (rLenS K) (tCons ta tNil)) σ H (.int (xs.length : Int)) := fun H1 e Q q => by
  refine ha H1 e _ fun H2 e2 => ?_
  exact ⟨p, xs, rfl, h H2 (e.trans e2), q H2 e2⟩
/-- a draw -/
theorem do_take {a l c : Addr} {N : Nat} {size : Int} {E : XK} {tu : TA} (h : EvA tu σ H [.ref a, .int size]) (hD : Dr a l c N H) (hN : N < 1000000) (h0 : 0 < size) (h1 : size < 100000) {Q : VK} {H1 : Hp} (e : Ex H H1)
    (q : ∀ v H2, 0 ≤ v → v < size → Dr a l c (N + 1) H2 → ExD a l H1 H2 → Q (.int v) H2) : tCall spTake [] E tu σ H1 Q := by
  refine h H1 e _ fun H2 e2 => ?_
  exact ⟨a, l, c, N, size, rfl, hD.mono (e.trans e2), hN, h0, h1, fun v H3 v0 v1 d3 e3 => q v H3 v0 v1 d3 ((ExD.of e2).trans e3)⟩
end
section
variable {P : Program} {w : World} {K : PySem.W.Frag} {mg : Str → Option Value} {base : Heap} {f : Addr} {fd : FuncData} {aK : Addr} {tL : Tok}
theorem erase_perm {α : Type} : ∀ (l : List α) {i : Nat} (h : i < l.length), ([l[i]] ++ l.eraseIdx i).Perm l
  | x :: r, 0, _ => List.Perm.refl _
  | x :: r, i + 1, h => (List.Perm.swap x _ _).trans ((erase_perm r (i := i) (by simpa using h)).cons x)
theorem map_erase {α β : Type} (g : α → β) : ∀ (l : List α) (i : Nat), (l.map g).eraseIdx i = (l.eraseIdx i).map g
  | [], _ => rfl
  | x :: r, 0 => rfl
  | x :: r, i + 1 => by
    show g x :: (r.map g).eraseIdx i = g x :: (r.eraseIdx i).map g
    rw [map_erase g r i]
theorem seqIx {i n : Nat} (h : i < n) : seqIndex? (i : Int) n = some i := by
  have h1 : ¬ (i : Int) < 0 := by omega
  have h2 : (i : Int) < (n : Int) := by omega
  unfold seqIndex?
  simp [h1, h2, h]
theorem atI_mem {xs : List V} {i : Nat} (hi : i < xs.length) : ∃ x, x ∈ xs ∧ atI xs (i : Int) = some x := ⟨xs[i], List.getElem_mem hi, at_of rfl (List.getElem?_eq_getElem hi)⟩
theorem ok__law_pick (F : Fun K "_law_pick" "_law_pick" s__law_pick f fd) (T : Tx K mg aK tL) (c__law_take : Cal P w K mg base CX0 2 "_law_take" ["draw", "size"] spTake) : FnOk P w K mg base CX0 3 f fd ["draw", "some"] spPick := by
  refine F.ok sc__law_pick (fun vs H Q E h => ?_) (fun cdv A outer s H vs Q E hr h => ?_)
  · obtain ⟨a, l, c, N, p, xs, rfl, _⟩ := h
    rfl
  · obtain ⟨a, l, c, N, p, xs, rfl, hD, hN, hp, x0, x1, q⟩ := h
    have hu := hu_of hr
    refine ⟨_, (pss_one (ps_ret (pe_ix (ixS (K := K) rfl) (pv 1) (pe_cl c__law_take hr (by decide) (by rfl) (pa_cons (pv 0) (pa_cons (pe_callB (crLen (K := K) rfl) (by rfl) T.len (by decide +kernel) (pa_cons (pv 1) pa_nil)) pa_nil))) (fun _ _ => rfl)))), ?_⟩
    refine ⟨.ref p, rfl, ?_⟩
    refine do_take (H := H) (size := (xs.length : Int)) (ea_cons (ev_var rfl) (ea_cons (ev_lenA (ev_var rfl) fun H1 e1 => (hp.exD (ExD.of e1)).seq) ea_nil)) hD hN (by omega) (by omega) (Ex.refl H) fun v H2 v0 v1 d2 e2 => ?_
    obtain ⟨i, rfl⟩ := Int.eq_ofNat_of_zero_le v0
    obtain ⟨x, hx, hat⟩ := atI_mem (xs := xs) (i := i) (by omega)
    have hs := hp.exD e2
    rcases hs.1 with h1 | h1
    · exact Or.inl ⟨p, xs, _, x, rfl, rfl, sq_of h1, hat, q x H2 hx d2 e2⟩
    · exact Or.inr (Or.inl ⟨p, xs, _, x, rfl, rfl, st_of h1, hat, q x H2 hx d2 e2⟩)
theorem ok__law_shuffled (F : Fun K "_law_shuffled" "_law_shuffled" s__law_shuffled f fd) (T : Tx K mg aK tL) (c__law_take : Cal P w K mg base CX0 2 "_law_take" ["draw", "size"] spTake) : FnOk P w K mg base CX0 3 f fd ["draw", "some"] spShuf := by
  refine F.ok sc__law_shuffled (fun vs H Q E h => ?_) (fun cdv A outer s H vs Q E hr h => ?_)
  · obtain ⟨a, l, c, N, p, zs, rfl, _⟩ := h
    rfl
  · obtain ⟨a, l, c, N, p, zs, rfl, hD, hN, hp, x1, hok, q⟩ := h
    have hu := hu_of hr
    refine ⟨_, (pss_cons (ps_par (i := 2) (j := 3) (by rfl) sc__law_shuffled.nd rfl rfl (by decide) rfl rfl (pa_cons (pe_callTy (crList (K := K) rfl) (by rfl) T.list (by decide +kernel) (pa_cons (pv 1) pa_nil)) (pa_cons (pe_lst pa_nil) pa_nil)) (by rfl))
      (pss_cons (ps_while PassesOwn.never (pt_cmpR (opNeD (K := K) rfl hr.units) (pv 2) (pe_lst pa_nil) (nomark _))
        (pss_one (ps_expr (pe_bm PySem.F.plainAttrs_list PySem.F.slot_list_append PySem.F.type_list_append mt_append (pv 3) (pa_cons (pe_bm PySem.F.plainAttrs_list PySem.F.slot_list_pop PySem.F.type_list_pop mt_popAt (pv 2) (pa_cons (pe_cl c__law_take hr (by decide) (by rfl) (pa_cons (pv 0) (pa_cons (pe_callB (crLen (K := K) rfl) (by rfl) T.len (by decide +kernel) (pa_cons (pv 2) pa_nil)) pa_nil))) pa_nil)) pa_nil)))))
      (pss_one (ps_ret (pv 3))))), ?_⟩
    -- left, found = list(some), []
    refine ⟨.ref p, rfl, p, _, rfl, hp.seq, fun lf hlf => ?_⟩
    refine ⟨Nat.zero_le _, fun fo hfo => ?_⟩
    have e1 : Ex H (upd H lf (.lst (zs.map V.str))) := Ex.new hlf
    have e2 := e1.trans (Ex.new (o := .lst []) hfo)
    have nlf : lf ≠ fo := ne_of_none upd_same hfo
    have nfo : H fo = none := fresh_back e1 hfo
    obtain ⟨kvs, lg, cs, rest, turn, k1, k2, k3, k4, k5, k6, k7, k8⟩ := hD.ex
    have n1 : a ≠ lf := ne_of_none k1 hlf
    have n2 : l ≠ lf := ne_of_none k7 hlf
    have n3 : a ≠ fo := ne_of_none k1 nfo
    have n4 : l ≠ fo := ne_of_none k7 nfo
    refine ⟨.ref lf, .ref fo, rfl, ?_⟩
    have d2 := hD.mono e2
    have l2 : (upd (upd H lf (.lst (zs.map V.str))) fo (.lst [])) lf = some (.lst (zs.map V.str)) := by
      rw [upd_ne nlf]
      exact upd_same
    have f2 : (upd (upd H lf (.lst (zs.map V.str))) fo (.lst [])) fo = some (.lst []) := upd_same
    generalize (upd (upd H lf (.lst (zs.map V.str))) fo (.lst [])) = H2 at e2 d2 l2 f2
    -- while
    refine ⟨fun m σ' H' => ∃ ls fs : List Str, σ' = [some (.ref a), some (.ref p), some (.ref lf), some (.ref fo)] ∧ ls.length = m ∧ (fs ++ ls).Perm zs ∧ H' lf = some (.lst (ls.map V.str)) ∧ H' fo = some (.lst (fs.map V.str)) ∧ Dr a l c (N + fs.length) H' ∧ ExD a l H H', ⟨zs.length, zs, [], rfl, rfl, List.Perm.refl _, l2, f2, d2, ExD.of e2⟩, fun m σ' H' hW => ?_⟩
    obtain ⟨ls, fs, rfl, hm, hperm, hl, hf, hd, he⟩ := hW
    have hlen := hperm.length_eq
    rw [List.length_append] at hlen
    have lok : ∀ z ∈ ls, PyData.strOk z = true := fun z hz => hok z (hperm.mem_iff.mp (List.mem_append_right _ hz))
    refine (et_test (ev_neNil (K := K) (ds := ls.map PyData.str) (ev_var rfl) hl (dp_strs _ ls) (fun _ _ => dp_strs _ ls) (shaped_strs lok))) H' (Ex.refl _) _ fun H3 e3 => ?_
    cases ls with
    | nil =>
      rw [show (!(([] : List Str).map V.str).isEmpty) = false from rfl, if_neg Bool.false_ne_true]
      rw [List.append_nil] at hperm
      refine s_ret (v := .ref fo) (ev_var rfl) fun H4 e4 => ?_
      have e34 := e3.trans e4
      exact q fo fs H4 hperm ((hd.mono e34).up (by rw [hperm.length_eq]; exact Nat.le_refl _)) (he.trans (ExD.of e34)) nfo (e34 _ _ hf)
    | cons z0 lr =>
      rw [show (!((z0 :: lr).map V.str).isEmpty) = true from rfl, if_pos rfl]
      refine ⟨fun σ4 H4 => ∃ m', m' < m ∧ ∃ ls fs : List Str, σ4 = [some (.ref a), some (.ref p), some (.ref lf), some (.ref fo)] ∧ ls.length = m' ∧ (fs ++ ls).Perm zs ∧ H4 lf = some (.lst (ls.map V.str)) ∧ H4 fo = some (.lst (fs.map V.str)) ∧ Dr a l c (N + fs.length) H4 ∧ ExD a l H H4, fun σ4 H4 h4 => h4, ?_⟩
      -- found.append(left.pop(draw))
      have hl3 := e3 _ _ hl
      have hf3 := e3 _ _ hf
      refine ⟨.ref fo, rfl, Or.inl ⟨rfl, _, sq_of hf3⟩, .ref lf, rfl, Or.inl ⟨rfl, _, sq_of hl3⟩, ?_⟩
      rw [List.length_cons] at hlen
      refine do_take (H := H3) (size := (((z0 :: lr).map V.str).length : Int)) (ea_cons (ev_var rfl) (ea_cons (ev_len (ev_var rfl) (sq_of hl3)) ea_nil)) (hd.mono e3) (by omega) (by rw [List.length_map, List.length_cons]; omega) (by rw [List.length_map, List.length_cons]; omega) (Ex.refl _) fun v H5 v0 v1 d5 e5 => ?_
      obtain ⟨i, rfl⟩ := Int.eq_ofNat_of_zero_le v0
      rw [List.length_map] at v1
      have hi : i < (z0 :: lr).length := by omega
      have hl5 : H5 lf = some (.lst ((z0 :: lr).map V.str)) := e5 _ _ hl3 (Ne.symm n1) (Ne.symm n2)
      have hf5 : H5 fo = some (.lst (fs.map V.str)) := e5 _ _ hf3 (Ne.symm n3) (Ne.symm n4)
      have hi2 : i < 100 := by
        rw [List.length_cons] at hi
        omega
      refine ⟨lf, _, (i : Int), i, .str (z0 :: lr)[i], rfl, rfl, hl5, by omega, by omega, ?_, ?_, ?_⟩
      · rw [List.length_map]
        exact seqIx hi
      · rw [List.getElem?_map, List.getElem?_eq_getElem hi]
        rfl
      · have hf6 : (upd H5 lf (.lst (((z0 :: lr).map V.str).eraseIdx i))) fo = some (.lst (fs.map V.str)) := by
          rw [upd_ne (Ne.symm nlf)]
          exact hf5
        refine ⟨fo, _, _, rfl, rfl, hf6, ?_, ?_⟩
        · rw [List.length_map]
          exact small1000 (by omega)
        · have hle : ((z0 :: lr).eraseIdx i).length = lr.length := by
            rw [List.length_eraseIdx_of_lt hi, List.length_cons]
            omega
          refine ⟨lr.length, by rw [← hm, List.length_cons]; omega, (z0 :: lr).eraseIdx i, fs ++ [(z0 :: lr)[i]], rfl, hle, ?_, ?_, ?_, ?_, ?_⟩
          · refine List.Perm.trans ?_ hperm
            rw [List.append_assoc]
            refine List.Perm.append_left fs ?_
            exact erase_perm _ hi
          · rw [upd_ne nlf, upd_same]
            congr 2
            exact map_erase _ _ _
          · rw [upd_same, List.map_append]
            rfl
          · have dd : Dr a l c (N + fs.length + 1) (upd (upd H5 lf (.lst (((z0 :: lr).map V.str).eraseIdx i))) fo (.lst (fs.map V.str ++ [.str (z0 :: lr)[i]]))) := by
              obtain ⟨kvs5, lg5, cs5, rest5, turn5, j1, j2, j3, j4, j5, j6, j7, j8, j9⟩ := d5.ex
              obtain ⟨_, _, _, _, _, _, _, _, _, _, _, _, c8, _⟩ := hD.ex
              have n5 : c ≠ lf := ne_of_none k8.1 hlf
              have n6 : c ≠ fo := ne_of_none k8.1 nfo
              exact ⟨kvs5, lg5, cs5, rest5, turn5, by rw [upd_ne n3, upd_ne n1]; exact j1, j2, j3, j4, j5, j6, by rw [upd_ne n4, upd_ne n2]; exact j7, by rw [upd_ne n6, upd_ne n5]; exact j8, j9⟩
            rw [List.length_append]
            exact dd
          · intro b o hb nb1 nb2
            rw [upd_ne (ne_of_none hb nfo), upd_ne (ne_of_none hb hlf)]
            exact ((he.trans (ExD.of e3)).trans e5) b o hb nb1 nb2
end
end N56
namespace N56
open PySem PySem.Spec PyProof.Rows L2 Evl
def spBegun (K : PySem.W.Frag) : Sp := fun vs H Q _ => ∃ (s : Addr) (ns : List Int), vs = [.ref s] ∧ SqL K H s (ns.map V.int) ∧ ns.length ≤ 63 ∧ ∀ (a l c : Addr) (H' : Hp), Ex H H' → Dr a l c 0 H' → H a = none → H l = none → Q (.ref a) H'
section
variable {P : Program} {w : World} {K : PySem.W.Frag} {mg : Str → Option Value} {base : Heap} {f : Addr} {fd : FuncData} {aK : Addr} {tL : Tok}
theorem cut_front (xs : List V) (n : Nat) : cutV xs none (some (n : Int)) = xs.take n := by
  unfold cutV
  rw [HT.sIx_none, show HT.sIx xs.length xs.length (some (n : Int)) = min n xs.length from HT.sIx_nat _ _ n, List.drop_zero, Nat.sub_zero]
  rw [Nat.min_comm, List.take_eq_take_iff]
  omega
theorem ok__law_names (F : Fun K "_law_names" "_law_names" s__law_names f fd) (T : Tx K mg aK tL) (c__law_shuffled : Cal P w K mg base CX0 3 "_law_shuffled" ["draw", "some"] spShuf) : FnOk P w K mg base CX0 4 f fd ["draw", "many"] spNames := by
  refine F.ok sc__law_names (fun vs H Q E h => ?_) (fun cdv A outer s H vs Q E hr h => ?_)
  · obtain ⟨a, l, c, N, many, rfl, _⟩ := h
    rfl
  · obtain ⟨a, l, c, N, many, rfl, hD, hN, m1, m4, q⟩ := h
    have hu := hu_of hr
    refine ⟨_, (pss_cons (ps_set (i := 2) sc__law_names.nd rfl (Or.inl rfl) (pe_lst (pa_cons pe_str (pa_cons pe_str (pa_cons pe_str (pa_cons pe_str (pa_cons pe_str (pa_cons pe_str (pa_cons pe_str (pa_cons pe_str (pa_cons pe_str (pa_cons pe_str (pa_cons pe_str (pa_cons pe_str (pa_cons pe_str (pa_cons pe_str (pa_cons pe_str (pa_cons pe_str (pa_cons pe_str (pa_cons pe_str (pa_cons pe_str (pa_cons pe_str pa_nil))))))))))))))))))))))
      (pss_one (ps_ret (pe_callB (crSortS (K := K) rfl) (by rfl) T.sorted (by decide +kernel) (pa_cons (pe_slice (slL (K := K) rfl) (pe_cl c__law_shuffled hr (by decide) (by rfl) (pa_cons (pv 0) (pa_cons (pv 2) pa_nil))) po_none (po_some (pv 1))) pa_nil))))), ?_⟩
    -- pool
    refine q_asgL (xs := poolL.map V.str) (el_lst (ea_cons ev_c (ea_cons ev_c (ea_cons ev_c (ea_cons ev_c (ea_cons ev_c (ea_cons ev_c (ea_cons ev_c (ea_cons ev_c (ea_cons ev_c (ea_cons ev_c (ea_cons ev_c (ea_cons ev_c (ea_cons ev_c (ea_cons ev_c (ea_cons ev_c (ea_cons ev_c (ea_cons ev_c (ea_cons ev_c (ea_cons ev_c (ea_cons ev_c ea_nil)))))))))))))))))))) (by decide)) fun p H1 hp0 e1 hp => ?_
    obtain ⟨kvs, lg, cs, rest, turn, k1, k2, k3, k4, k5, k6, k7, k8⟩ := hD.ex
    have npa : p ≠ a := fun e => by rw [e, k1] at hp0; cases hp0
    have npl : p ≠ l := fun e => by rw [e, k7] at hp0; cases hp0
    -- shuffled
    refine ⟨.ref a, rfl, .ref p, rfl, a, l, c, N, p, poolL, rfl, hD.mono e1, by omega, ⟨.inl hp, npa, npl⟩, by decide, pool_ok, fun q1 ys H2 hperm d2 e2 hq0 hq1 => ?_⟩
    refine ⟨.int many, rfl, many, rfl, ?_⟩
    refine ⟨q1, _, rfl, sq_of hq1, fun q2 hq2 => ?_⟩
    obtain ⟨n, rfl⟩ := Int.eq_ofNat_of_zero_le (show 0 ≤ many by omega)
    rw [cut_front, ← List.map_take]
    have x3 : Ex H2 (upd H2 q2 (.lst ((ys.take n).map V.str))) := Ex.new hq2
    have hl : ys.length = 20 := hperm.length_eq
    refine ⟨q2, ys.take n, rfl, sq_of upd_same, by rw [List.length_take]; omega, fun zs q3 hp3 hs hq3 => ?_⟩
    have x4 := x3.trans (Ex.new (o := .lst (zs.map V.str)) hq3)
    have nd : zs.Nodup := hp3.nodup_iff.mpr ((hperm.nodup_iff.mpr pool_nodup).sublist (List.take_sublist _ _))
    have hlen : zs.length = n := by
      rw [hp3.length_eq, List.length_take]
      omega
    refine q q3 zs _ ⟨by omega, by omega, fun z hz => pool_good z (hperm.mem_iff.mp (List.mem_of_mem_take (hp3.mem_iff.mp hz))), sorted_asc hs nd⟩ (by rw [hlen]; rfl) (d2.mono x4) (((ExD.of e1).trans e2).trans (ExD.of x4)) ?_ upd_same
    cases e : H q3 with
    | none => rfl
    | some o =>
      exfalso
      by_cases n1 : q3 = a
      · obtain ⟨kv2, _, _, _, _, j1, _⟩ := (d2.mono x3).ex
        rw [n1, j1] at hq3
        cases hq3
      · by_cases n2 : q3 = l
        · obtain ⟨kv2, _, _, _, _, _, _, _, _, _, _, j7, _⟩ := (d2.mono x3).ex
          rw [n2, j7] at hq3
          cases hq3
        · have := x3 _ _ (e2 _ _ (e1 _ _ e) n1 n2)
          rw [this] at hq3
          cases hq3
theorem ok__law_begun (F : Fun K "_law_begun" "_law_begun" s__law_begun f fd) (T : Tx K mg aK tL) : FnOk P w K mg base CX0 1 f fd ["script"] (spBegun K) := by
  refine F.ok sc__law_begun (fun vs H Q E h => ?_) (fun cdv A outer s H vs Q E hr h => ?_)
  · obtain ⟨s0, ns, rfl, _⟩ := h
    rfl
  · obtain ⟨s0, ns, rfl, hS, hlen, q⟩ := h
    have hu := hu_of hr
    refine ⟨_, (pss_cons (ps_setLc (i := 1) (own := [("cell", 2)]) rfl sc__law_begun.nd rfl rfl (sw_true rfl rfl rfl (by decide +kernel)) (piLst (K := K) rfl (pv 0)) (blkOk_by (own := [("cell", 2)]) (N := N__law_begun) (sc := defScope s__law_begun) (by decide +kernel)) (fun _ _ _ _ _ => (pg_name (i := 2) sc__law_begun.nd rfl (Or.inl rfl))) (fun _ _ _ _ _ => pts_one (pt_cmpR op_ge (pe_callB call_abs (by rfl) T.abs (by decide +kernel) (pa_cons (pv 2) pa_nil)) (pe_op op_pow pe_int pe_int) (nomark _))) (fun _ _ _ _ _ => (pe_op op_sub (pe_callB call_abs (by rfl) T.abs (by decide +kernel) (pa_cons (pv 2) pa_nil)) (pe_op op_pow pe_int pe_int))))
      (pss_one (ps_ret (pe_disp (pps_cons pe_str (pv 1) (pps_cons pe_str (pe_lc (own := [("cell", 2)]) rfl sc__law_begun.nd (piLst (K := K) rfl (pv 0)) (blkOk_by (own := [("cell", 2)]) (N := N__law_begun) (sc := defScope s__law_begun) (by decide +kernel)) (fun _ _ _ _ _ => (pg_name (i := 2) sc__law_begun.nd rfl (Or.inl rfl))) (fun _ _ _ _ _ => pts_nil) (fun _ _ _ _ _ => (pe_op op_mod (pe_callTy call_int1 (by rfl) T.int (by decide +kernel) (pa_cons (pe_callB call_abs (by rfl) T.abs (by decide +kernel) (pa_cons (pv 2) pa_nil)) pa_nil)) pe_int))) (pps_cons pe_str pe_int (pps_cons pe_str pe_int pps_nil)))) (by rfl) (by rfl) (fun z => by cases z) (by decide))))), ?_⟩
    have h18 : Ev (tOp (rI CPow fun i j => .int (i ^ j.toNat)) (tC (.int 10)) (tC (.int 18))) = Ev (tOp (rI CPow fun i j => .int (i ^ j.toNat)) (tC (.int 10)) (tC (.int 18))) := rfl
    have p18 : ∀ (σ : L2.St) (H : Hp), Ev (tOp (rI CPow fun i j => .int (i ^ j.toNat)) (tC (.int 10)) (tC (.int 18))) σ H (.int (10 ^ (18 : Int).toNat)) := fun σ H => ev_pow ev_c ev_c ⟨by decide, by decide, by decide⟩
    generalize (10 ^ (18 : Int).toNat : Int) = big at p18
    have absI : ∀ i : Int, (if i < 0 then -i else i) = (i.natAbs : Int) := fun i => by split <;> omega
    -- large
    have key := el_lcL (K := K) (te := tOp (rI0 fun i j => .int (i - j)) (tCB (fun xs H Q => ∃ i, xs = [.int i] ∧ Q (.int (if i < 0 then -i else i)) H) (tCons (tVar 2) tNil)) (tOp (rI CPow fun i j => .int (i ^ j.toNat)) (tC (.int 10)) (tC (.int 18))))
      (t := tTest (tOp (rI0 fun i j => .bl (decide (j ≤ i))) (tCB (fun xs H Q => ∃ i, xs = [.int i] ∧ Q (.int (if i < 0 then -i else i)) H) (tCons (tVar 2) tNil)) (tOp (rI CPow fun i j => .int (i ^ j.toNat)) (tC (.int 10)) (tC (.int 18)))))
      (σ := [some (.ref s0), none, none]) (H := H) (j := 2) (vs := [2]) (tl := tVar 0) (xs := ns.map V.int) (fun k => decide (big ≤ ((ns.getD k 0).natAbs : Int))) (fun k => .int (((ns.getD k 0).natAbs : Int) - big)) (ev_var rfl) hS (by rw [List.length_map]; omega) (fun _ => rfl)
      (fun k x H5 e5 hx => by
        obtain ⟨d, hd, rfl⟩ := map_at hx
        rw [show ns.getD k 0 = d by rw [List.getD_eq_getElem?_getD, hd]; rfl, ← absI d]
        exact et_test (ev_geV (ev_abs (ev_var rfl)) (p18 _ _)))
      (fun k x H5 e5 hx _ => by
        obtain ⟨d, hd, rfl⟩ := map_at hx
        rw [show ns.getD k 0 = d by rw [List.getD_eq_getElem?_getD, hd]; rfl, ← absI d]
        exact ev_sub (ev_abs (ev_var rfl)) (p18 _ _))
    rw [List.length_map, given_filter (0 : Int) (fun d => decide (big ≤ (d.natAbs : Int))) (fun d => V.int ((d.natAbs : Int) - big))] at key
    refine q_asgL key fun l H1 hl0 e1 hl => ?_
    have el : (ns.filter fun d => decide (big ≤ (d.natAbs : Int))).map (fun d => V.int ((d.natAbs : Int) - big)) = ((ns.filter fun d => decide (big ≤ (d.natAbs : Int))).map fun d => (d.natAbs : Int) - big).map V.int := by
      rw [List.map_map]
      rfl
    rw [el] at hl
    have hl2 : ((ns.filter fun d => decide (big ≤ (d.natAbs : Int))).map fun d => (d.natAbs : Int) - big).length ≤ 63 := by
      rw [List.length_map]
      exact Nat.le_trans (List.length_filter_le _ _) hlen
    have hl3 : ∀ x ∈ ((ns.filter fun d => decide (big ≤ (d.natAbs : Int))).map fun d => (d.natAbs : Int) - big), 0 ≤ x := fun x hx => by
      obtain ⟨d, hd, rfl⟩ := List.mem_map.mp hx
      have := of_decide_eq_true (List.mem_filter.mp hd).2
      omega
    generalize ((ns.filter fun d => decide (big ≤ (d.natAbs : Int))).map fun d => (d.natAbs : Int) - big) = lg at hl hl2 hl3
    -- cells
    have key2 : ∀ H2, Ex H1 H2 → EvL (tLc (iList K (tVar 0)) (gName 2) tYes (tOp (rI (fun _ j => 0 < j) fun i j => .int (i % j)) (tCB (fun xs H Q => (∃ i, xs = [.int i] ∧ Q (.int i) H) ∨ ∃ k, xs = [.bl k] ∧ Q (.int (if k then 1 else 0)) H) (tCons (tCB (fun xs H Q => ∃ i, xs = [.int i] ∧ Q (.int (if i < 0 then -i else i)) H) (tCons (tVar 2) tNil)) tNil)) (tC (.int 2147483629))) [2])
        [some (.ref s0), some (.ref l), none] H2 ((ns.map fun d => (d.natAbs : Int) % 2147483629).map V.int) := fun H2 e2 => by
      have z := el_lcL (K := K) (te := tOp (rI (fun _ j => 0 < j) fun i j => .int (i % j)) (tCB (fun xs H Q => (∃ i, xs = [.int i] ∧ Q (.int i) H) ∨ ∃ k, xs = [.bl k] ∧ Q (.int (if k then 1 else 0)) H) (tCons (tCB (fun xs H Q => ∃ i, xs = [.int i] ∧ Q (.int (if i < 0 then -i else i)) H) (tCons (tVar 2) tNil)) tNil)) (tC (.int 2147483629))) (t := tYes)
        (σ := [some (.ref s0), some (.ref l), none]) (H := H2) (j := 2) (vs := [2]) (tl := tVar 0) (xs := ns.map V.int) (fun _ => true) (fun k => .int (((ns.getD k 0).natAbs : Int) % 2147483629)) (ev_var rfl) (ex_l (e1.trans e2) hS) (by rw [List.length_map]; omega) (fun _ => rfl)
        (fun _ _ _ _ _ => et_yes)
        (fun k x H5 e5 hx _ => by
          obtain ⟨d, hd, rfl⟩ := map_at hx
          rw [show ns.getD k 0 = d by rw [List.getD_eq_getElem?_getD, hd]; rfl, ← absI d]
          exact ev_mod (ev_int (ev_abs (ev_var rfl))) ev_c (by decide))
      rw [List.length_map, given_map (0 : Int) (fun d => V.int ((d.natAbs : Int) % 2147483629)) ns] at z
      rw [List.map_map]
      exact z
    -- the dict
    intro a ha
    refine ⟨_, rfl, ?_⟩
    dsimp only [tPairs, tC]
    refine key2 _ (Ex.new ha) _ (Ex.refl _) _ fun c H2 hc0 e2 hc => ?_
    have ha2 : H2 a = some (.dK []) := e2 _ _ upd_same
    have x12 : Ex H1 H2 := (Ex.new ha).trans e2
    refine ⟨ha2, [(kLarge, .ref l), (kCells, .ref c), (kRest, .int 0), (kTurn, .int 0)], rfl, (by simp only [List.length_cons, List.length_nil]; decide), ?_⟩
    have nd : ([(kLarge, V.ref l), (kCells, V.ref c), (kRest, V.int 0), (kTurn, V.int 0)].map (·.1)).Nodup := (by decide +kernel : [kLarge, kCells, kRest, kTurn].Nodup)
    have nal : l ≠ a := ne_of_none hl ha
    have nac : c ≠ a := fun e => by
      rw [e, upd_same] at hc0
      cases hc0
    have hl4 : H2 l = some (.lst (lg.map V.int)) := x12 _ _ hl
    have nlc : l ≠ c := fun e => by
      rw [← e, upd_ne nal, hl] at hc0
      cases hc0
    have x13 : Ex H1 (upd H2 a (.dK (mergeK [] [(kLarge, V.ref l), (kCells, V.ref c), (kRest, V.int 0), (kTurn, V.int 0)]))) := Ex.mut x12 ha
    refine q a l c _ (e1.trans x13) ⟨_, lg, ns.map fun d => (d.natAbs : Int) % 2147483629, 0, 0, upd_same, ?_, valV_merge_get (i := 0) nd rfl, valV_merge_get (i := 1) nd rfl, valV_merge_get (i := 2) nd rfl, valV_merge_get (i := 3) nd rfl,
      by rw [upd_ne nal]; exact hl4, by rw [upd_ne nac]; exact hc, nlc, hl3, fun x hx => ?_, Int.le_refl 0, Int.le_refl 0, Int.le_refl 0, by omega, by rw [List.length_map]; omega⟩ (fresh_back e1 ha) hl0
    · exact Nat.le_trans (length_mergeK _ []) (by simp only [List.length_cons, List.length_nil]; decide)
    · obtain ⟨d, _, rfl⟩ := List.mem_map.mp hx
      exact Int.emod_nonneg _ (by decide)
end
end N56
namespace N56
open PySem PySem.Spec PyProof.Rows L2 Evl
open K56 (Common Is Never meets lcmOf)
/-- rows at r: pairs of first day, step -/
def PairsH (K : PySem.W.Frag) (H : Hp) (r : Addr) (rs : List (Int × Int)) : Prop := ∃ ps : List Addr, SqL K H r (ps.map V.ref) ∧ ps.length = rs.length ∧ ∀ (j : Nat) p x, ps[j]? = some p → rs[j]? = some x → H p = some (.tup [.int x.1, .int x.2])
def SmallR (x : Int × Int) : Prop := 0 ≤ x.1 ∧ x.1 < 30 ∧ 1 ≤ x.2 ∧ x.2 ≤ 12
def spJoin (K : PySem.W.Frag) : Sp := fun vs H Q _ => ∃ (r : Addr) (rs : List (Int × Int)), vs = [.ref r] ∧ PairsH K H r rs ∧ 1 ≤ rs.length ∧ rs.length ≤ 4 ∧ (∀ x ∈ rs, SmallR x) ∧ (Never rs → ∀ H', Ex H H' → Q .non H') ∧
  ∀ (first step : Int) (p : Addr) H', Is rs first step → 0 ≤ first → first ≤ 400 → 0 < step → step ≤ 20736 → Ex H H' → H' p = some (.tup [.int first, .int step]) → Q (.ref p) H'
def Found (first step other more : Int) (k : Nat) (v : V) : Prop := (v = .non ∧ ∀ j : Nat, j < k → ¬ meets first step other more j) ∨ ∃ j : Nat, v = .int (first + step * (j : Int)) ∧ meets first step other more j ∧ ∀ i : Nat, i < j → ¬ meets first step other more i
theorem cut_rest (xs : List V) : cutV xs (some 1) none = xs.drop 1 := by
  have h : xs.length - min 1 xs.length = (xs.drop 1).length := by
    rw [List.length_drop]
    omega
  unfold cutV
  rw [HT.sIx_none, show HT.sIx xs.length 0 (some 1) = min 1 xs.length from HT.sIx_nat _ _ 1, h]
  cases xs with
  | nil => rfl
  | cons x r =>
    rw [show min 1 (x :: r).length = 1 by rw [List.length_cons]; omega]
    exact List.take_length
theorem pow_step {i : Nat} {s m : Int} (h : s ≤ 12 ^ i) (h0 : 0 < s) (hm : m ≤ 12) (hm0 : 0 < m) : s * m ≤ 12 ^ (i + 1) := by
  rw [Int.pow_succ]
  exact Int.mul_le_mul h hm (Int.le_of_lt hm0) (by omega)
theorem pow_max {i : Nat} (h : i ≤ 4) : (12 : Int) ^ i ≤ 20736 := by
  rcases (by omega : i = 0 ∨ i = 1 ∨ i = 2 ∨ i = 3 ∨ i = 4) with rfl | rfl | rfl | rfl | rfl <;> decide
section
variable {K : PySem.W.Frag} {σ : L2.St} {H H' : Hp} {ta tb te tx td ty : TE} {t u : TT} {x y z v : V} {tr : TA} {D : Ends} {tz : TS}
abbrev rIsNon : R2 := fun x y H Q => y = .non ∧ Q (.bl (decide (x = .non))) H
theorem ev_isNon (ha : Ev ta σ H x) : Ev (tOp rIsNon ta (tC .non)) σ H (.bl (decide (x = .non))) := ev_op ha ev_c fun H1 _ _ q => ⟨rfl, q H1 (Ex.refl H1)⟩
theorem ev_eqI {i j : Int} (ha : Ev ta σ H (.int i)) (hb : Ev tb σ H (.int j)) : Ev (tOp rEq ta tb) σ H (.bl (decide (i = j))) := ev_is (ev_op ha hb (rv_eq rfl)) (by
  by_cases h : i = j
  · rw [decide_eq_true h, decide_eq_true (show V.int i = V.int j by rw [h])]
  · rw [decide_eq_false h, decide_eq_false (fun z => h (V.int.inj z))])
theorem q_asgT2 {p : Addr} {i j : Nat} (h : Ev te σ H (.ref p)) (hp : H p = some (.tup [x, y])) (k : ∀ H1, Ex H H1 → tz D ((σ.set i (some x)).set j (some y)) H1) :
    tSeq (tAsg te (gTup K 2 (gCons (gName i) (gCons (gName j) gNil)))) tz D σ H := h H (Ex.refl H) _ fun H1 e => ⟨p, [x, y], rfl, st_of (e _ _ hp), rfl, x, [y], rfl, y, [], rfl, rfl, k H1 e⟩
end
section
variable {P : Program} {w : World} {K : PySem.W.Frag} {mg : Str → Option Value} {base : Heap} {f : Addr} {fd : FuncData} {aK : Addr} {tL : Tok}
theorem ok__law_common (F : Fun K "_law_common" "_law_common" s__law_common f fd) (T : Tx K mg aK tL) : FnOk P w K mg base CX0 1 f fd ["rows"] (spJoin K) := by
  refine F.ok sc__law_common (fun vs H Q E h => ?_) (fun cdv A outer s H vs Q E hr h => ?_)
  · obtain ⟨r, rs, rfl, _⟩ := h
    rfl
  · obtain ⟨r, rs, rfl, ⟨ps, hS, lp, hps⟩, l1, l4, hb, qN, qI⟩ := h
    have hu := hu_of hr
    refine ⟨_, (pss_cons (ps_asg (pe_ix (ixL (K := K) rfl) (pv 0) pe_int (fun _ _ => rfl)) (pg_tup rfl (pgs_cons (pg_name (i := 1) sc__law_common.nd rfl (Or.inl rfl)) (pgs_cons (pg_name (i := 2) sc__law_common.nd rfl (Or.inl rfl)) pgs_nil))))
      (pss_cons (ps_for PassesOwn.never rfl (piLst (K := K) rfl (pe_slice (slL (K := K) rfl) (pv 0) (po_some pe_int) po_none)) (pg_tup rfl (pgs_cons (pg_name (i := 3) sc__law_common.nd rfl (Or.inl rfl)) (pgs_cons (pg_name (i := 4) sc__law_common.nd rfl (Or.inl rfl)) pgs_nil)))
        (pss_cons (ps_set (i := 5) sc__law_common.nd rfl (Or.inl rfl) pe_non)
      (pss_cons (ps_for PassesOwn.never rfl (pi_range1 (by rfl) T.range (pa_cons (pe_op op_add (pe_op op_add (pv 4) (pe_op op_fdiv pe_int (pv 2))) pe_int) pa_nil)) (pg_name (i := 6) sc__law_common.nd rfl (Or.inl rfl))
        (pss_cons (ps_set (i := 7) sc__law_common.nd rfl (Or.inl rfl) (pe_op op_add (pv 1) (pe_op op_mul (pv 2) (pv 6))))
      (pss_one (ps_if (PW.pt (pw_and (pt_cmpR op_isN (pv 5) pe_non (nomark _)) (pw_and (pt_cmpR op_ge (pv 7) (pv 3) (nomark _)) (pw_and1 (pt_cmpR op_eq (pe_op op_mod (pe_callTy call_int1 (by rfl) T.int (by decide +kernel) (pa_cons (pe_op op_sub (pv 7) (pv 3)) pa_nil)) (pv 4)) pe_int (nomark _))))))
        (pss_one (ps_set (i := 5) sc__law_common.nd rfl (Or.inl rfl) (pv 7)))
        pss_nil))))
      (pss_cons (ps_if (pt_cmpR op_isN (pv 5) pe_non (nomark _))
        (pss_one (ps_ret pe_non))
        pss_nil)
      (pss_cons (ps_par (i := 8) (j := 9) (by rfl) sc__law_common.nd rfl rfl (by decide) rfl rfl (pa_cons (pv 2) (pa_cons (pv 4) pa_nil)) (by rfl))
      (pss_cons (ps_for PassesOwn.never rfl (pi_range1 (by rfl) T.range (pa_cons pe_int pa_nil)) (pg_name (i := 6) sc__law_common.nd rfl (Or.inl rfl))
        (pss_cons (ps_if (pt_cmpR op_eq (pv 9) pe_int (nomark _))
        (pss_one ps_break)
        pss_nil)
      (pss_one (ps_par (i := 8) (j := 9) (by rfl) sc__law_common.nd rfl rfl (by decide) rfl rfl (pa_cons (pv 9) (pa_cons (pe_op op_mod (pe_callTy call_int1 (by rfl) T.int (by decide +kernel) (pa_cons (pv 8) pa_nil)) (pv 9)) pa_nil)) (by rfl)))))
      (pss_one (ps_par (i := 1) (j := 2) (by rfl) sc__law_common.nd rfl rfl (by decide) rfl rfl (pa_cons (pv 5) (pa_cons (pe_op op_mul (pe_op op_fdiv (pv 2) (pv 8)) (pv 4)) pa_nil)) (by rfl)))))))))
      (pss_one (ps_ret (pe_ifExp (pt_cmpR op_le (pv 1) pe_int (nomark _)) (pe_tup (pa_cons (pv 1) (pa_cons (pv 2) pa_nil))) pe_non))))), ?_⟩
    obtain ⟨x0, hx0⟩ := get_of (l := rs) (i := 0) rfl (by omega)
    obtain ⟨p0, hp0⟩ := get_of lp (i := 0) (by omega)
    obtain ⟨b1, b2, b3, b4⟩ := hb _ (List.mem_of_getElem? hx0)
    -- first, step = rows[0]
    refine q_asgT2 (p := p0) (x := .int x0.1) (y := .int x0.2) (ev_op (ev_var rfl) ev_c (rv_ixL hS (at_of (j := 0) rfl (by rw [List.getElem?_map, hp0]; rfl)))) (hps 0 _ _ hp0 hx0) fun H1 e1 => ?_
    -- for other, more in rows[1:]
    have wk : EvL (tSl (rSlL K) (tVar 0) (tPart (tC (.int 1))) tNoPart) [some (.ref r), some (.int x0.1), some (.int x0.2), none, none, none, none, none, none, none] H1 (cutV (ps.map V.ref) (some 1) none) :=
      el_sl (ev_var rfl) (eo_some ev_c) eo_none (ex_l e1 hS)
    rw [cut_rest, ← List.map_drop] at wk
    refine q_forQL (eql_of wk) (fun i σ' H' => ∃ (first step : Int) (y3 y4 y5 y6 y7 y8 y9 : Option V), σ' = [some (.ref r), some (.int first), some (.int step), y3, y4, y5, y6, y7, y8, y9] ∧ Is (rs.take (i + 1)) first step ∧ 0 ≤ first ∧ 0 < step ∧ step ≤ 12 ^ (i + 1))
      (fun H2 e2 => ⟨x0.1, x0.2, none, none, none, none, none, none, none, rfl, ?_, b1, by omega, by omega⟩) (fun i x σ' H2 H' N e2 hx e3 hP k => ?_) fun σ' H' e2 hP => ?_
    · rw [List.take_succ, hx0]
      exact K56.is_one _ _
    · obtain ⟨first, step, y3, y4, y5, y6, y7, y8, y9, rfl, hI, f0, s0, s12⟩ := hP
      obtain ⟨pp, hpp, rfl⟩ := map_at hx
      rw [List.getElem?_drop, Nat.add_comm] at hpp
      obtain ⟨⟨other, more⟩, hom⟩ := get_of (l := rs) (i := i + 1) rfl (by
        have := (List.getElem?_eq_some_iff.mp hpp).1
        omega)
      obtain ⟨o0, o30, m1, m12⟩ := hb _ (List.mem_of_getElem? hom)
      have i3 : i + 1 < rs.length := (List.getElem?_eq_some_iff.mp hom).1
      dsimp only at o0 o30 m1 m12
      have e13 := (e1.trans e2).trans e3
      have htk : rs.take (i + 2) = rs.take (i + 1) ++ [(other, more)] := by
        rw [List.take_succ, hom]
        rfl
      have sM := Int.le_trans s12 (pow_max (i := i + 1) (by omega))
      refine ⟨pp, [.int other, .int more], rfl, st_of (e13 _ _ (hps _ _ _ hpp hom)), rfl, .int other, [.int more], rfl, .int more, [], rfl, rfl, ?_⟩
      -- found = None
      refine q_asg ev_c fun H5 e5 => ?_
      have dv0 : 0 ≤ 401 / step := Int.ediv_nonneg (by omega) (by omega)
      have dv1 : 401 / step ≤ 401 := Int.ediv_le_self _ (by omega)
      -- for lap in range(more + 401 // step + 1)
      refine q_forR1 (σ := [some (.ref r), some (.int first), some (.int step), some (.int other), some (.int more), some .non, y6, y7, y8, y9]) (n := more + 401 / step + 1) (ea_cons (ev_add (ev_add (ev_var rfl) (ev_fdiv ev_c (ev_var rfl) ⟨s0, by omega⟩)) ev_c) ea_nil) ⟨by omega, by omega⟩
        (fun n σ' H' => ∃ (v : V) (z6 z7 : Option V), σ' = [some (.ref r), some (.int first), some (.int step), some (.int other), some (.int more), some v, z6, z7, y8, y9] ∧ Ex H5 H' ∧ Found first step other more n v)
        (fun H6 e6 => ⟨.non, y6, y7, rfl, e6, Or.inl ⟨rfl, fun j hj => absurd hj (Nat.not_lt_zero _)⟩⟩) (fun n σ' H' hn hP => ?_) fun σ' H' hP => ?_
      · obtain ⟨v, z6, z7, rfl, e6, hF⟩ := hP
        refine q_asg (σ := [some (.ref r), some (.int first), some (.int step), some (.int other), some (.int more), some v, some (.int (n : Int)), z7, y8, y9]) (v := .int (first + step * (n : Int))) (ev_add (ev_var rfl) (ev_mul (ev_var rfl) (ev_var rfl) (Or.inl ⟨by omega, by omega⟩))) fun H7 e7 => ?_
        refine s_when (σ := [some (.ref r), some (.int first), some (.int step), some (.int other), some (.int more), some v, some (.int (n : Int)), some (.int (first + step * (n : Int))), y8, y9]) (b := decide (v = .non) && (decide (other ≤ first + step * (n : Int)) && decide ((first + step * (n : Int) - other) % more = 0)))
          (et_and (et_test (ev_isNon (ev_var rfl))) fun _ => et_and (et_test (ev_geV (ev_var rfl) (ev_var rfl))) fun _ => et_test (ev_eqI (ev_mod (ev_int (ev_sub (ev_var rfl) (ev_var rfl))) (ev_var rfl) (by omega)) ev_c)) (fun hb H8 e8 => ?_) fun hb H8 e8 => ?_
        · rw [Bool.and_eq_true, Bool.and_eq_true, decide_eq_true_eq, decide_eq_true_eq, decide_eq_true_eq] at hb
          obtain ⟨h1, h2, h3⟩ := hb
          refine s_asg (σ := [some (.ref r), some (.int first), some (.int step), some (.int other), some (.int more), some v, some (.int (n : Int)), some (.int (first + step * (n : Int))), y8, y9]) (v := .int (first + step * (n : Int))) (ev_var rfl) fun H9 e9 => ?_
          refine ⟨_, _, _, rfl, e6.trans ((e7.trans e8).trans e9), Or.inr ⟨n, rfl, ⟨h2, h3⟩, ?_⟩⟩
          rcases hF with ⟨_, h⟩ | ⟨j, h, _⟩
          · exact h
          · rw [h1] at h
            cases h
        · refine ⟨_, _, _, rfl, e6.trans (e7.trans e8), ?_⟩
          rcases hF with ⟨h1, h2⟩ | ⟨j, h1, h2, h3⟩
          · refine Or.inl ⟨h1, fun j hj => ?_⟩
            by_cases hjn : j < n
            · exact h2 j hjn
            · rw [show j = n by omega]
              intro ⟨m1, m2⟩
              rw [decide_eq_true h1, decide_eq_true m1, decide_eq_true m2] at hb
              cases hb
          · exact Or.inr ⟨j, h1, h2, h3⟩
      · obtain ⟨v, z6, z7, rfl, e6, hF⟩ := hP
        -- if found is None
        refine q_when (σ := [some (.ref r), some (.int first), some (.int step), some (.int other), some (.int more), some v, z6, z7, y8, y9]) (b := decide (v = .non)) (et_test (ev_isNon (ev_var rfl))) (fun hb H7 e7 => ?_) fun hb H7 e7 => ?_
        · refine s_ret ev_c fun H8 e8 => qN ?_ _ (e13.trans ((e5.trans e6).trans (e7.trans e8)))
          have hv := of_decide_eq_true hb
          rcases hF with ⟨_, h⟩ | ⟨j, h, _⟩
          · have hN : Never (rs.take (i + 2)) := by
              rw [htk]
              exact K56.never_step hI f0 s0 (by omega) _ (by omega) h
            rw [← List.take_append_drop (i + 2) rs]
            exact K56.never_mono hN
          · rw [hv] at h
            cases h
        · have hv := of_decide_eq_false hb
          rcases hF with ⟨h, _⟩ | ⟨j, rfl, hj, hno⟩
          · exact absurd h hv
          have hIs := K56.is_step hI s0 (by omega : 0 < more) j hj hno
          rw [← htk] at hIs
          have hlp := K56.lcm_pos s0 (by omega : 0 < more)
          have hll := K56.lcm_le s0 (by omega : 0 < more)
          have hpw := pow_step s12 s0 m12 (by omega)
          -- one, two = step, more
          refine q_par (σ := [some (.ref r), some (.int first), some (.int step), some (.int other), some (.int more), some (.int (first + step * (j : Int))), z6, z7, y8, y9]) (v := .int step) (w := .int more) (ea_cons (ev_var rfl) (ea_cons (ev_var rfl) ea_nil)) fun H8 e8 => ?_
          have e58 := ((e5.trans e6).trans e7).trans e8
          generalize hg : Int.gcd step more = g at hIs hlp hll
          have gpos : 0 < g := by
            rw [← hg]
            exact Int.gcd_pos_of_ne_zero_left _ (by omega)
          have gle : (g : Int) ≤ 12 := by
            have : (g : Int) ∣ more := by
              rw [← hg]
              exact Int.gcd_dvd_right ..
            have := Int.le_of_dvd (by omega) this
            omega
          -- Euclid
          have fin : ∀ (D2 : Ends) (z6' : Option V) H9, D2.nx = N → Ex H8 H9 → tPar 1 2 (tCons (tVar 5) (tCons (tOp (rI CMul fun i j => .int (i * j)) (tOp (rI CDiv fun i j => .int (i / j)) (tVar 2) (tVar 8)) (tVar 4)) tNil))
              D2 [some (.ref r), some (.int first), some (.int step), some (.int other), some (.int more), some (.int (first + step * (j : Int))), z6', z7, some (.int (g : Int)), some (.int 0)] H9 := fun D2 z6' H9 eD e9 =>
            s_par (v := .int (first + step * (j : Int))) (w := .int (lcmOf step more g)) (ea_cons (ev_var rfl) (ea_cons (ev_mul (ev_fdiv (ev_var rfl) (ev_var rfl) ⟨by omega, by omega⟩) (ev_var rfl) (Or.inr ⟨by omega, by omega⟩)) ea_nil)) fun H10 e10 => by
              rw [eD]
              exact k _ _ (e58.trans (e9.trans e10)) ⟨_, _, _, _, _, _, _, _, _, rfl, hIs, by have := Int.mul_nonneg (Int.le_of_lt s0) (Int.ofNat_nonneg j); omega, hlp, by omega⟩
          refine q_forR1 (σ := [some (.ref r), some (.int first), some (.int step), some (.int other), some (.int more), some (.int (first + step * (j : Int))), z6, z7, some (.int step), some (.int more)]) (n := 60) (ea_cons ev_c ea_nil) ⟨by omega, by omega⟩
            (fun n σ' H' => ∃ (one two : Int) (z6' : Option V), σ' = [some (.ref r), some (.int first), some (.int step), some (.int other), some (.int more), some (.int (first + step * (j : Int))), z6', z7, some (.int one), some (.int two)] ∧ Ex H8 H' ∧ 0 < one ∧ 0 ≤ two ∧ Int.gcd one two = g ∧ (two = 0 ∨ two + (n : Int) ≤ 12))
            (fun H9 e9 => ⟨step, more, z6, rfl, e9, s0, by omega, hg, Or.inr (by omega)⟩) (fun n σ' H' hn hP => ?_) fun σ' H' hP => ?_
          · obtain ⟨one, two, z6', rfl, e9, h1, h2, h3, h4⟩ := hP
            refine q_when (σ := [some (.ref r), some (.int first), some (.int step), some (.int other), some (.int more), some (.int (first + step * (j : Int))), some (.int (n : Int)), z7, some (.int one), some (.int two)]) (b := decide (two = 0)) (et_test (ev_eqI (ev_var rfl) ev_c)) (fun hb H10 e10 => ?_) fun hb H10 e10 => ?_
            · have h0 := of_decide_eq_true hb
              subst h0
              rw [Int.gcd_zero] at h3
              obtain rfl : one = (g : Int) := by omega
              exact fin _ _ _ rfl (e9.trans e10)
            · have h0 := of_decide_eq_false hb
              have m0 := Int.emod_nonneg one h0
              have m1 := Int.emod_lt_of_pos one (show 0 < two by omega)
              exact s_par (v := .int two) (w := .int (one % two)) (ea_cons (ev_var rfl) (ea_cons (ev_mod (ev_int (ev_var rfl)) (ev_var rfl) (by omega)) ea_nil)) fun H11 e11 =>
                ⟨two, one % two, _, rfl, e9.trans (e10.trans e11), by omega, m0, by rw [K56.gcd_step (by omega) (by omega)]; exact h3, Or.inr (by omega)⟩
          · obtain ⟨one, two, z6', rfl, e9, h1, h2, h3, h4⟩ := hP
            have h0 : two = 0 := by
              rcases h4 with h | h
              · exact h
              · have : (60 : Int).toNat = 60 := rfl
                omega
            subst h0
            rw [Int.gcd_zero] at h3
            obtain rfl : one = (g : Int) := by omega
            exact fin _ _ _ rfl e9
    · obtain ⟨first, step, y3, y4, y5, y6, y7, y8, y9, rfl, hI, f0, s0, s12⟩ := hP
      have hl : ((ps.drop 1).map V.ref).length + 1 = rs.length := by
        rw [List.length_map, List.length_drop]
        omega
      rw [hl] at hI s12
      rw [List.take_length] at hI
      have sM := Int.le_trans s12 (pow_max l4)
      refine et_test (ev_leV (i := first) (j := 400) (ev_var rfl) ev_c) H' (Ex.refl _) _ fun H3 e3 => ?_
      have e13 := (e1.trans e2).trans e3
      by_cases h : first ≤ 400
      · rw [if_pos (decide_eq_true h)]
        exact eu_tup (σ := [some (.ref r), some (.int first), some (.int step), y3, y4, y5, y6, y7, y8, y9]) (H := H3) (vs := [.int first, .int step]) (ea_cons (ev_var rfl) (ea_cons (ev_var rfl) ea_nil)) (by show 2 ≤ 100000; omega) H3 (Ex.refl _) _ fun p H4 _ e4 hp =>
          qI first step p _ hI f0 h s0 sM (e13.trans e4) hp
      · rw [if_neg (by rw [decide_eq_true_eq]; exact h)]
        exact qN (fun d hd hc => by
          have := ((hI d).1 hc).1
          omega) _ e13
end
end N56
namespace N56
open PySem PySem.Spec PyProof.Rows L2 Evl
/-- data that repr shows whole -/
def Sm (d : PyData) : Prop := d.showable = true ∧ d.hasDict = false ∧ d.depth ≤ 100 ∧ d.shown.length ≤ sizeLine
def rRepr (K : PySem.W.Frag) : List V → Hp → VK → Prop := fun xs H Q => ∃ x d, xs = [x] ∧ Dp K H x d ∧ d.showable = true ∧ d.hasDict = false ∧ d.depth ≤ 100 ∧ d.shown.length ≤ sizeLine ∧ Q (.str d.shown) H
theorem crRepr {X : Cx} {K : PySem.W.Frag} (e : X.K = K) (hg : X.A.guards = some []) (hu : X.A.units + 200 < cLine) : CallR X (.builtin "repr") (rRepr K) := by
  subst e
  exact call_reprD hg hu
theorem _root_.L2.Room.un0 {k : Nat} {A : Around} (r : Room k A) : A.units + 200 < cLine := by
  have := r.un
  omega
/-- a def where nothing is being shown -/
structure FnG (P : Program) (w : World) (K : PySem.W.Frag) (mg : Str → Option Value) (base : Heap) (k : Nat) (f : Addr) (fd : FuncData) (ps : List Str) (sp : Sp) : Prop where
  len : ∀ vs H Q E, sp vs H Q E → vs.length = ps.length
  run : ∀ (A : Around) (outer : List Env) (s : Shared) (H : Hp) (args : Args) (us : List Value) (vs : List V) (Q : VK) (E : XK), A.guards = some [] → Room k A → Env0 P w K mg base A outer s H → BindsTo s fd args (ps.zip us) → Vals vs us → sp vs H Q E →
    codeAny (model P w) A (.call (.ref f) args) (CR CX0 outer P w H s Q E) s
section
variable {P : Program} {w : World} {K : PySem.W.Frag} {mg : Str → Option Value} {base : Heap}
theorem okG {x qual : Str} {st : Stmt} {f : Addr} {fd : FuncData} {N ps : List Str} {k : Nat} {sp : Sp} (F : Fun K x qual st f fd) (S : FnScope N ps (defScope st)) (len : ∀ vs H Q E, sp vs H Q E → vs.length = ps.length)
    (hb : ∀ (cdv : Value) (A : Around) (outer : List Env) (s : Shared) (H : Hp) (vs : List V) (Q : VK) (E : XK), A.guards = some [] → Room k (A.deeper (envOfC qual (defScope st) s.heap.objs.size f cdv)) → sp vs H Q E →
      ∃ t, PSs (cxOf CX0 P w K mg base N qual (defScope st) f cdv A outer s H E).nox (defBody st) t ∧ t { nx := fun _ H' => Q .non H', rt := Q } (start N vs) H) : FnG P w K mg base (k + 1) f fd ps sp := by
  obtain ⟨oc, od, kV, doc, pm, an, cdv, ct, osl, rfl, lk, hcd⟩ := F.ex
  refine ⟨len, fun A outer s H args us vs Q E hG hr e0 hbd r q => ?_⟩
  refine LamX.run_ofS lk hcd S hr e0 hbd r (len _ _ _ _ q) fun hr' => ?_
  obtain ⟨t, h1, h2⟩ := hb cdv A outer s H vs Q E hG hr' q
  exact ⟨t, h1.nox, h2⟩
end
/-- a def that may be called by its name, where nothing is being shown -/
structure CalG (P : Program) (w : World) (K : PySem.W.Frag) (mg : Str → Option Value) (base : Heap) (k : Nat) (x : Str) (ps : List Str) (sp : Sp) : Prop where
  ex : ∃ (f : Addr) (fd : FuncData), FnG P w K mg base k f fd ps sp ∧ mg x = some (.ref f) ∧ PySem.W.keepIn K (.ref f) = true ∧ Binds K fd ps []
section
variable {X : Cx} {k j : Nat} {x : Str} {ps : List Str} {sp : Sp} {p pos : Pos} {e : Expr} {es : List Expr} {t : TA}
theorem pe_clG (c : CalG X.prog X.w X.K X.mg X.base k x ps sp) (hG : X.A.guards = some []) (hr : Room j X.A) (hk : k ≤ j) (hg : Gl X x) (ha : PA X (e :: es) t)
    (hdb : (x == ("__debug__" : Str)) = false := by decide) (he : starEach (e :: es) X.env = (false, eval e X.env) :: starEach es X.env := by rfl)
    (hpl : (backTo pos (starEach es X.env)).any (·.1) = false := by rfl) : PE X (.Call (.Name x p) (e :: es) [] pos) (tCall sp [] E0 t) := by
  obtain ⟨f, fd, F, hm, kp, b⟩ := c.ex
  refine ⟨fun pins s σ H Q I h => wpAny_Call_Name_kw (ld_glob I hg hm (PySem.W.callWith_K (h₀ := X.base) I.ok.mod.kin kp (thn (ha.run pos pins s σ H _ I h) fun us s1 hh => ?_) he hpl) hdb)⟩
  obtain ⟨vs, H1, I1, r, q⟩ := hh
  rw [List.append_nil] at q
  refine ⟨I1.kIn, wpAny_call (codeAny_mono (F.run X.A X.stack s1 H1 ⟨us, []⟩ us vs Q E0 hG (hr.mono hk) I1.env0 ?_ r q) fun out s2 hq => ?_)⟩
  · have z := b s1 us I1.kIn (by rw [List.append_nil, ← r.length]; exact F.len _ _ _ _ q)
    rw [List.append_nil] at z
    exact z
  · match out, hq with
    | .error e, hq => exact hq.elim
    | .ok (.ret u), hq => exact I1.after hq
    | .ok .next, hq => exact hq.elim
    | .ok .brk, hq => exact hq.elim
    | .ok .cont, hq => exact hq.elim
end
/-! ### _law_same -/
def spSame (K : PySem.W.Frag) : Sp := fun vs H Q _ => ∃ x y d, vs = [x, y] ∧ Dp K H x d ∧ Dp K H y d ∧ Sm d ∧ Q (.bl true) H
section
variable {P : Program} {w : World} {K : PySem.W.Frag} {mg : Str → Option Value} {base : Heap} {f : Addr} {fd : FuncData} {aK : Addr} {tL : Tok}
theorem ok__law_same (F : Fun K "_law_same" "_law_same" s__law_same f fd) (T : Tx K mg aK tL) : FnG P w K mg base 1 f fd ["one", "right"] (spSame K) := by
  refine okG F sc__law_same (fun vs H Q E h => ?_) (fun cdv A outer s H vs Q E hG hr h => ?_)
  · obtain ⟨x, y, d, rfl, _⟩ := h
    rfl
  · obtain ⟨x, y, d, rfl, h1, h2, ⟨s1, s2, s3, s4⟩, q⟩ := h
    have hu := hu_of hr
    refine ⟨_, (pss_one (ps_ret (pe_cmpR op_eq (pe_callB (crRepr (K := K) rfl hG (hr.un0)) (by rfl) T.repr (by decide +kernel) (pa_cons (pv 0) pa_nil)) (pe_callB (crRepr (K := K) rfl hG (hr.un0)) (by rfl) T.repr (by decide +kernel) (pa_cons (pv 1) pa_nil)) (nomark _)))), ?_⟩
    refine ⟨x, rfl, x, d, rfl, h1, s1, s2, s3, s4, y, rfl, y, d, rfl, h2, s1, s2, s3, s4, ?_⟩
    refine ⟨rfl, ?_⟩
    rw [decide_eq_true rfl]
    exact q
end
/-! ### small data -/
theorem log_lt {i : Int} (h : i.natAbs < 10 ^ 12) (h0 : i.natAbs ≠ 0) : i.natAbs.log2 < 40 := by
  rw [Nat.log2_lt h0]
  exact Nat.lt_trans h (by decide : 10 ^ 12 < 2 ^ 40)
theorem depth_many : ∀ ns : List Int, PyData.depthAll (ns.map PyData.int) ≤ 1
  | [] => Nat.zero_le _
  | n :: r => by
    have h := depth_many r
    simp only [List.map_cons, PyData.depthAll, PyData.depth]
    omega
theorem weight_one {i : Int} (h : i.natAbs < 10 ^ 12) : (PyData.int i).weight ≤ 41 := by
  simp only [PyData.weight]
  split
  · omega
  · rename_i h0
    have := log_lt h (by intro z; apply h0; simpa using z)
    omega
theorem weight_ints : ∀ ns : List Int, (∀ n ∈ ns, n.natAbs < 10 ^ 12) → PyData.weightAll (ns.map PyData.int) ≤ 42 * ns.length
  | [], _ => Nat.zero_le _
  | n :: r, hn => by
    have h := weight_ints r fun m hm => hn m (List.mem_cons_of_mem _ hm)
    have h1 := weight_one (hn n List.mem_cons_self)
    simp only [List.map_cons, PyData.weightAll, List.length_cons]
    omega
theorem noDict_ints : ∀ ns : List Int, PyData.hasDictAll (ns.map PyData.int) = false
  | [] => rfl
  | n :: r => by simp only [List.map_cons, PyData.hasDictAll, PyData.hasDict, noDict_ints r, Bool.or_self]
theorem log_small {i : Int} (h : i.natAbs < 10 ^ 12) : i.natAbs.log2 < 1920 := by
  by_cases h0 : i.natAbs = 0
  · rw [h0]
    decide
  · exact Nat.lt_trans (log_lt h h0) (by decide)
theorem show_ints : ∀ ns : List Int, (∀ n ∈ ns, n.natAbs < 10 ^ 12) → PyData.showableAll (ns.map PyData.int) = true
  | [], _ => rfl
  | n :: r, h => by
    simp only [List.map_cons, PyData.showableAll, PyData.showable, Bool.and_eq_true, decide_eq_true_eq]
    exact ⟨log_small (h n List.mem_cons_self), show_ints r fun m hm => h m (List.mem_cons_of_mem _ hm)⟩
theorem leaves_ints : ∀ ns : List Int, (∀ n ∈ ns, n.natAbs < 10 ^ 12) → PyData.leavesShortAll 13 (ns.map PyData.int) = true
  | [], _ => rfl
  | n :: r, h => by
    simp only [List.map_cons, PyData.leavesShortAll, PyData.leavesShort, Bool.and_eq_true, decide_eq_true_eq]
    exact ⟨PyData.shown_int_le (h n List.mem_cons_self), leaves_ints r fun m hm => h m (List.mem_cons_of_mem _ hm)⟩
/-- a leaf or a tuple of ints: what may stand in a list that is shown -/
structure SmI (d : PyData) : Prop where
  sh : d.showable = true
  nd : d.hasDict = false
  dp : d.depth ≤ 3
  lv : d.leavesShort 13 = true
  wt : d.weight ≤ 60000
theorem smI_non : SmI .none := ⟨rfl, rfl, by simp [PyData.depth], rfl, by simp [PyData.weight]⟩
theorem smI_bl (b : Bool) : SmI (.bool b) := ⟨rfl, rfl, by simp [PyData.depth], rfl, by simp [PyData.weight]⟩
theorem smI_int {i : Int} (h : i.natAbs < 10 ^ 12) : SmI (.int i) := ⟨by simp only [PyData.showable, decide_eq_true_eq]; exact log_small h, rfl, by simp [PyData.depth], by simp only [PyData.leavesShort, decide_eq_true_eq]; exact PyData.shown_int_le h, Nat.le_trans (weight_one h) (by decide)⟩
theorem smI_tup {ns : List Int} (h : ∀ n ∈ ns, n.natAbs < 10 ^ 12) (hl : ns.length ≤ 1000) : SmI (.tuple (ns.map .int)) := by
  have h1 := depth_many ns
  have h2 := weight_ints ns h
  refine ⟨?_, ?_, ?_, ?_, ?_⟩
  · simp only [PyData.showable]
    exact show_ints ns h
  · simp only [PyData.hasDict]
    exact noDict_ints ns
  · simp only [PyData.depth]
    omega
  · simp only [PyData.leavesShort]
    exact leaves_ints ns h
  · simp only [PyData.weight]
    omega
theorem SmI.sm {d : PyData} (h : SmI d) : Sm d := ⟨h.sh, h.nd, Nat.le_trans h.dp (by decide), PyData.shown_fits (B := 13) (by decide) (by decide) h.lv (Nat.le_trans h.wt (by decide))⟩
theorem sm_two {d e : PyData} (h : SmI d) (k : SmI e) : Sm (.list [d, e]) := by
  have h1 := h.dp
  have h2 := k.dp
  have h3 := h.wt
  have h4 := k.wt
  refine ⟨?_, ?_, ?_, ?_⟩
  · simp only [PyData.showable, PyData.showableAll, h.sh, k.sh, Bool.and_self]
  · simp only [PyData.hasDict, PyData.hasDictAll, h.nd, k.nd, Bool.or_self]
  · simp only [PyData.depth, PyData.depthAll]
    omega
  · refine PyData.shown_fits (B := 13) (by decide) (by decide) ?_ ?_
    · simp only [PyData.leavesShort, PyData.leavesShortAll, h.lv, k.lv, Bool.and_self]
    · simp only [PyData.weight, PyData.weightAll]
      have : (2 : Nat) ^ 20 = 1048576 := by decide
      omega
theorem dp_two {K : PySem.W.Frag} {H : Hp} {a : Addr} {x y : V} {d e : PyData} (h : H a = some (.lst [x, y])) (hx : Dp K H x d) (hy : Dp K H y e) : Dp K H (.ref a) (.list [d, e]) := .lst (sq_of h) (.cons hx (.cons hy .nil))
theorem dp_tup {K : PySem.W.Frag} {H : Hp} {a : Addr} {ns : List Int} (h : H a = some (.tup (ns.map V.int))) : Dp K H (.ref a) (.tuple (ns.map .int)) := .tup (st_of h) (dp_ints H ns)
end N56
namespace N56
open PySem PySem.Spec PyProof.Rows L2 Evl
/-! ### an exception that was caught and is kept -/
/-- an object of the class cls, an exception, at a -/
def IsO (cls : Value) (a : Addr) : HO := .ext fun h => ∃ (oe : Obj) (vs : Array Value), h.get? a = some oe ∧ Zc cls none oe ∧ oe.data = .fields vs
theorem isO_ok {P : Program} {w : World} {H : Hp} {h : Heap} {a : Addr} {cls : Value} {oe : Obj} {vs : Array Value} (g : h.get? a = some oe) (z : Zc cls none oe) (d : oe.data = .fields vs) : ObjOk P w H h a (IsO cls a) :=
  ⟨⟨oe, vs, g, z, d⟩, ⟨oe, g⟩, fun _ _ ⟨o, v, p, q⟩ k => ⟨o, v, k o p, q⟩⟩
section
variable {X : Cx} {pins : List (Addr × Obj)} {σ : L2.St} {H : Hp} {s : Shared}
/-- a young object that nothing tracks is tracked from here on -/
theorem inv_mark {a : Addr} {cls : Value} {oe : Obj} {vs : Array Value} (I : Inv X pins σ H s) (g : s.heap.get? a = some oe) (z : Zc cls none oe) (d : oe.data = .fields vs) (hN : H a = none) (h0 : X.s_0.heap.get? a = none) (nl : X.env.locals ≠ a) (np : ∀ p ∈ X.pn ++ pins, p.1 ≠ a) :
    Inv X pins σ (upd H a (IsO cls a)) s := by
  have stay : ∀ (b : Addr) (o : HO), H b = some o → upd H a (IsO cls a) b = some o := fun b o q => by
    rw [upd_ne (ne_of_none q hN)]
    exact q
  have gone : ∀ b : Addr, b ≠ a → H b = none → upd H a (IsO cls a) b = none := fun b nb q => by
    rw [upd_ne nb]
    exact q
  have old : ∀ (b : Addr) (o : Obj), X.s_0.heap.get? b = some o → b ≠ a := fun b o q e => by
    rw [e, h0] at q
    cases q
  have cellNe : ∀ x c, X.env.cells.lookup x = some c → c ≠ a := fun x c q e => by
    obtain ⟨v, o, ho, hc⟩ := I.cell x c q
    rw [e, g] at ho
    cases ho
    rw [d] at hc
    cases hc
  have B := I.base
  refine { ok := I.ok, os := I.os, bare := I.bare, loc := I.loc, cell := I.cell, len := I.len, free := gone _ nl I.free, freeC := fun x c q => gone c (cellNe x c q) (I.freeC x c q), base := ?base, pin := ?pin, hok := ?hok }
  case base => exact
    { keep := B.keep, slot := B.slot, there := B.there, free := fun b o q n e => gone b (old b o q) (B.free b o q n e), tups := fun b xs q => stay b _ (B.tups b xs q), frzs := fun b o u q => stay b _ (B.frzs b o u q),
      tbls := fun b ps q => by
        obtain ⟨m, e⟩ := B.tbls b ps q
        exact ⟨m, stay b _ e⟩ }
  case pin =>
    intro p hp
    obtain ⟨q1, q2, q3⟩ := I.pin p hp
    exact ⟨q1, gone _ (np p hp) q2, q3⟩
  case hok =>
    intro b u q
    by_cases e : b = a
    · subst e
      rw [upd_same] at q
      cases q
      exact isO_ok g z d
    · rw [upd_ne e] at q
      exact (I.hok b u q).stay (fun _ _ _ r => r) (fun c r => stay c _ r) fun c xs r => stay c _ r
end
/-- what the clause 'except x as n: v = n' wishes, where the body always raises -/
def wKeep (n : Nat) (K : PySem.W.Frag) (c : Value) (iv i : Nat) (D : Ends) : WX := fun cls d σ H => PySem.W.exmOne K cls c = some true ∧ d = none ∧ (σ.length = n → ∀ a, H a = none → D.nx ((σ.set iv (some (.ref a))).set i none) (upd H a (IsO cls a)))
section
variable {X : Cx} {x n v : Str} {c : Value} {i iv : Nat} {body : List Stmt} {np pos pos' : Pos} {st : Stmt} {tb : WX → TS}
theorem ps_try_keep (hs : X.stack = X.env :: X.outer) (hf : X.env.frame = some X.env.locals) (hex : X.ex = []) (hN : X.N.Nodup) (hi : X.N[i]? = some n) (hln : X.env.kindOf n = some .local) (hc : Names X x c)
    (hb : ∀ (W : WX) (pn : List (Addr × Obj)) (xe : Value → Shared → Prop), Takes (X.tr pn xe) W → PSs (X.tr pn xe) body (tb W))
    (hsu : ∀ (a : Addr) (pn : List (Addr × Obj)), PSs (X.suite a pn) [st] (fun D σ H => ∃ y, (σ[i]? = some (some y)) ∧ D.nx (σ.set iv (some y)) H)) (hne : i ≠ iv) (hil : i < X.N.length) :
    PS X (.Try body [.ExceptHandler (some (.Name x np)) (some n) [st] pos'] [] [] pos) (fun D σ H => tb (wKeep X.N.length X.K c iv i D) D σ H) := by
  refine ⟨fun pins s σ H D I h => ?_⟩
  have ok := I.ok
  have frames : X.A.frames = some (X.env :: X.outer) := by rw [ok.frames, hs]
  have R := (hb (wKeep X.N.length X.K c iv i D) (X.pn ++ pins) (fun e t1 => wpAny (model X.prog X.w) X.A (noteFrame e X.env) (fun _ t2 => wpAny (model X.prog X.w) X.A (setFlight e none)
    (fun _ t3 => wpAny (model X.prog X.w) X.A (handleBy e X.env [.ExceptHandler (some (.Name x np)) (some n) [st] pos']) (SP X pins D) X.xe t3) X.xe t2) X.xe t1) ?caught).run [] s σ H D (I.toTry _) h
  · refine wpAny_Try_except (wpAny_mono R (fun fl t hq => ?_) fun _ _ q => q)
    cases fl with
    | next =>
      obtain ⟨σ2, H2, J, q⟩ := hq
      exact wpAny_execs_nil ⟨σ2, H2, J.ofTry ok, q⟩
    | ret u =>
      obtain ⟨y, σ2, H2, J, r, q⟩ := hq
      exact ⟨y, σ2, H2, J.ofTry ok, r, q⟩
    | brk =>
      obtain ⟨σ2, H2, J, q⟩ := hq
      exact ⟨σ2, H2, J.ofTry ok, q⟩
    | cont =>
      obtain ⟨σ2, H2, J, q⟩ := hq
      exact ⟨σ2, H2, J.ofTry ok, q⟩
  case caught =>
    intro u t air
    obtain ⟨a, B, sI, pins2, σ1, H1, cls, d, rfl, JT, ground, up, sky, na, os, bare, hm, rfl, wish⟩ := air
    have J : Inv X pins σ1 H1 sI := JT.ofTry ok
    have sky2 : Sky B (X.env :: X.outer) a (Zc cls none) X.env.locals t.heap := by rw [← hs]; exact sky
    refine Sky.land Zc.steady frames hf sky2 fun g3 fly3 up3 => ?_
    have J3 : Inv X pins σ1 H1 { t with heap := g3 } := J.landed ground fly3.1 (up.trans up3) os bare
    obtain ⟨o3, f3, at3, z3, d3⟩ := fly3.there
    -- the exception's address is none of the frames', and it is young
    have noFrame : a ∉ frs (X.env :: X.outer) := fun hmem => by
      obtain ⟨_, o', e', notF⟩ := fly3.2.2.1.mem hmem
      rw [at3] at e'
      cases e'
      exact notF _ d3
    have aL : a ≠ X.env.locals := fun e => noFrame (List.mem_filterMap.mpr ⟨X.env, List.mem_cons_self, by rw [hf, e]⟩)
    have aF : a ∉ X.fs := fun hmem => by
      obtain ⟨ev, h1, h2⟩ := List.mem_filterMap.mp hmem
      exact noFrame (List.mem_filterMap.mpr ⟨ev, List.mem_cons_of_mem _ h1, h2⟩)
    have young : sI.heap.get? a = none := by
      cases q : sI.heap.get? a with
      | none => rfl
      | some o =>
        have z := ground a o q (by rw [hs]; exact noFrame)
        rw [fly3.2.1] at z
        cases z
    have first : X.s_0.heap.get? a = none := by
      cases q : X.s_0.heap.get? a with
      | none => rfl
      | some o =>
        obtain ⟨o', z⟩ := J.base.there a o q (by rw [hex]; exact fun z => nomatch z)
        rw [young] at z
        cases z
    have noPin : ∀ p ∈ X.pn ++ pins, p.1 ≠ a := fun p hp e => by
      have z := (J.pin p hp).1
      rw [e, young] at z
      cases z
    have S3 := J3.suite at3 d3 na aL aF
    refine wpAny_handleBy_cons (codeAny_handlers_test ?_) (by intro q; cases q)
    have isCls : PySem.W.Looks (model X.prog X.w) g3 (typeOf (.ref a)) cls := fun A2 Q2 E2 s2 k q => wpAny_typeOf_ref (k _ _ at3) (by rw [z3.1]; exact q)
    have matched := PySem.W.exm_one (M := model X.prog X.w) J3.kIn isCls hm
    have loaded : ∀ {Q2 E2 : Value → Shared → Prop}, Q2 c { t with heap := g3 } → wpAny (model X.prog X.w) (X.A.mark (some (.ref a))) (eval (.Name x np) X.env) Q2 E2 { t with heap := g3 } := fun {Q2 E2} q => by
      obtain ⟨isG, notDbg, own | ⟨none0, blt, notNm⟩⟩ := hc
      · exact ld_glob (X := X.suite a ((a, o3) :: (X.pn ++ pins))) S3 isG own q notDbg
      · exact ld_blt (X := X.suite a ((a, o3) :: (X.pn ++ pins))) S3 isG none0 blt q notNm notDbg
    refine loaded (matched.here (codeAny_handlers_suite_as (HandSPX.lands_againZ fly3 fun g4 fly4 up4 => ?_)))
    have J4 : Inv X pins σ1 H1 { t with heap := g4 } := J.landed ground fly4.1 ((up.trans up3).trans up4) os bare
    obtain ⟨o4, f4, at4, z4, d4⟩ := fly4.there
    have S4 := J4.suite at4 d4 na aL aF
    have len1 : σ1.length = X.N.length := J.len
    refine store_ok (X := X.suite a ((a, o4) :: (X.pn ++ pins))) (v := .ref a) S4 hN hi (.inl hln) rfl (fun t5 S5 => ?_) (.inr hln)
    have at_i : (σ1.set i (some (V.ref a)))[i]? = some (some (V.ref a)) := List.getElem?_set_self (by rw [len1]; exact hil)
    refine wpAny_mono ((hsu a ((a, o4) :: (X.pn ++ pins))).run [] t5 _ H1 { nx := fun σ2 H2 => σ2 = (σ1.set i (some (V.ref a))).set iv (some (V.ref a)) ∧ H2 = H1, rt := fun _ _ => False, bk := fun _ _ => False, ct := fun _ _ => False } S5 ⟨.ref a, at_i, rfl, rfl⟩) (fun fl t6 hq => ?_) fun _ _ z => False.elim z
    cases fl with
    | next =>
      obtain ⟨σ6, H6, S6, rfl, rfl⟩ := hq
      have own : ∀ p ∈ X.pn ++ ((a, o4) :: pins), t6.heap.get? p.1 = some p.2 ∧ H6 p.1 = none ∧ p.1 ≠ X.env.locals ∧ p.1 ∉ X.fs ∧ ∀ v, p.2.data ≠ .cell v := fun p hp => S6.pin p (by
        show p ∈ ((a, o4) :: (X.pn ++ pins)) ++ []
        rw [List.append_nil]
        rcases List.mem_append.mp hp with h1 | h1
        · exact List.mem_cons_of_mem _ (List.mem_append_left _ h1)
        · rcases List.mem_cons.mp h1 with h2 | h2
          · rw [h2]
            exact List.mem_cons_self
          · exact List.mem_cons_of_mem _ (List.mem_append_right _ h2))
      have U := S6.unsuite ok
      have J6 : Inv X ((a, o4) :: pins) ((σ1.set i (some (V.ref a))).set iv (some (V.ref a))) H6 t6 := ⟨ok, U.os, U.bare, U.base, U.loc, U.cell, U.free, U.freeC, own, U.hok, U.len⟩
      refine gone_ok J6 hN hi hln fun t7 J7 => ?_
      have J8 : Inv X pins (((σ1.set i (some (V.ref a))).set iv (some (V.ref a))).set i none) H6 t7 := ⟨ok, J7.os, J7.bare, J7.base, J7.loc, J7.cell, J7.free, J7.freeC, fun p hp => J7.pin p (by
        rcases List.mem_append.mp hp with h1 | h1
        · exact List.mem_append_left _ h1
        · exact List.mem_append_right _ (List.mem_cons_of_mem _ h1)), J7.hok, J7.len⟩
      have at7 := (J7.pin (a, o4) (List.mem_append_right _ List.mem_cons_self)).1
      have J9 := inv_mark J8 at7 z4 d4 na first (Ne.symm aL) noPin
      have es : ((σ1.set i (some (V.ref a))).set iv (some (V.ref a))).set i none = (σ1.set iv (some (V.ref a))).set i none := by
        rw [List.set_comm _ _ hne, List.set_set]
      rw [es] at J9
      exact ⟨_, _, J9, wish len1 a na⟩
    | ret u =>
      obtain ⟨_, _, _, _, _, z⟩ := hq
      exact z.elim
    | brk =>
      obtain ⟨_, _, _, z⟩ := hq
      exact z.elim
    | cont =>
      obtain ⟨_, _, _, z⟩ := hq
      exact z.elim
/-- x(), an own exception class without own __init__ -/
theorem pmk_own0 {C : Addr} {bmB : List Value} {b newId initId : String} {p : Pos} (F : ExcBaseFacts b newId initId bmB) (q : PySem.W.excIn X.K C bmB newId = true) (gC : X.mg x = some (.ref C)) (kC : PySem.W.keepIn X.K (.ref C) = true) (r : Raises X (.ref C)) (hg : Gl X x)
    (hdb : (x == ("__debug__" : Str)) = false := by decide) : PMk X (.Call (.Name x p) [] [] pos) (fun _ H Q => Q (.ref C) none H) := by
  intro pins s σ H Q I h
  refine wpAny_Call_Name_kw (ld_glob I hg gC (PySem.W.callWith_K0 I.kIn kC ?_) hdb)
  obtain ⟨bm, N, nm, qn, bs, hdct, sn, sub, ab, col, dd, k0, k1, k2, k3, k5, mN, hC, hN, hni, T⟩ := exc_obj I.kIn q
  exact wpAny_call_exc_subT F T hC hN hni (fun h' e hm => mk_of I hm r h (I.hok.gone hm.new)) (Nat.zero_le _)
/-- isinstance(e, C), e an object of C that was kept -/
theorem call_isO {C : Addr} (E : ExcC X.K C) (one : PySem.W.kitOne X.K (.ref C) (.ref C) = some true) : CallR X (.builtin "isinstance") (fun xs H Q => ∃ a, xs = [.ref a, .ref C] ∧ H a = some (IsO (.ref C) a) ∧ Q (.bl true) H) := by
  intro pins s σ H xs us Q I r h
  obtain ⟨a, rfl, ha, q⟩ := h
  obtain ⟨⟨oe, vs, g, ⟨z1, z2⟩, d⟩, _, _⟩ := I.hok a _ ha
  cases r with
  | cons r1 rr =>
    cases rr with
    | cons r2 rr =>
      cases rr
      cases r1
      cases r2
      have at_ : PySem.W.InstAt s.heap a oe C none := by
        obtain ⟨oc, od, oda, osl⟩ := oe
        dsimp only at z1 z2 d
        subst z1 z2 d
        exact ⟨g, rfl, rfl, trivial⟩
      exact PySem.W.kia_one (PySem.W.handS_kitx_exc E.hg E.hk E.hs E.hd E.ha E.hn E.ht E.hm) I.kIn at_ one (fun z => nomatch z) fun tk => ⟨.bl true, H, I.kept (t' := tk) fun _ _ y => y, rfl, q⟩
end
end N56
namespace N56
open PySem PySem.Spec PyProof.Rows L2 Evl
/-- what the module says of NotOpen (at C) and of DeskError (at D) -/
structure NoT (K : PySem.W.Frag) (mg : Str → Option Value) (C D : Addr) : Prop where
  gC : mg "NotOpen" = some (.ref C)
  kC : PySem.W.keepIn K (.ref C) = true
  gD : mg "DeskError" = some (.ref D)
  ex : PySem.W.excIn K C [.type "ValueError", .type "Exception", .type "BaseException", .type "object"] "ValueError.__new__" = true
  sub : PySem.W.subIn K (.ref C) (.type "BaseException") = some true
  ty : PySem.W.typeIn K (.ref C) = some (.type "type")
  exm : PySem.W.exmOne K (.ref C) (.ref D) = some true
  cls : ExcC K C
  one : PySem.W.kitOne K (.ref C) (.ref C) = some true
/-- closed on a day that is not open: a NotOpen -/
def spCloX (C : Addr) : Sp := fun vs H Q E => ∃ rows z d, ArgC vs H rows z d ∧ d ∉ dz rows z ∧ ∀ H', Ex H H' → E (.ref C) none H'
section
variable {P : Program} {w : World} {K : PySem.W.Frag} {mg : Str → Option Value} {base : Heap} {f : Addr} {fd : FuncData} {aK : Addr} {tL : Tok} {C DE : Addr}
theorem ok_closedX (F : Fun K "closed" "closed" s_closed f fd) (T : Tx K mg aK tL) (NT : NoT K mg C DE) (c_is_calendar : Cal P w K mg base CX0 4 "is_calendar" ["thing"] (spB PreCal)) (c_is_name : Cal P w K mg base CX0 1 "is_name" ["thing"] (spB PreName))
    (c_is_day : Cal P w K mg base CX0 2 "is_day" ["thing"] (spB PreDay)) : FnOk P w K mg base (L2.CX P w) 5 f fd ["calendar", "currency", "day"] (spCloX C) := by
  refine F.okX sc_closed (fun vs H Q E h => ?_) (fun cdv A outer s H vs Q E hr h => ?_)
  · obtain ⟨rows, z, d, ⟨a, r, rfl, _⟩, _⟩ := h
    rfl
  · obtain ⟨rows, z, d, ⟨a, r, rfl, hc, gc, hr0, rfl, d0, d4⟩, hd, q⟩ := h
    have hu := hu_of hr
    refine ⟨_, (pss_cons (ps_if (pt_not (pt_val (pe_cl c_is_calendar hr (by decide) (by rfl) (pa_cons (pv 0) pa_nil))))
        (pss_one ps_never)
        pss_nil)
      (pss_cons (ps_if (PW.pt (pw_or (pt_not (pt_val (pe_cl c_is_name hr (by decide) (by rfl) (pa_cons (pv 1) pa_nil)))) (pw_or1 (pt_cmp (pc_dnotin hu (pv 1) (pe_callTy (crDictT (K := K) rfl rfl) (by rfl) T.dict (by decide +kernel) (pa_cons (pe_ix (ixT (K := K) rfl) (pv 0) pe_int (fun _ _ => rfl)) pa_nil))) (by rfl)))))
        (pss_one ps_never)
        pss_nil)
      (pss_cons (ps_if (pt_not (pt_val (pe_cl c_is_day hr (by decide) (by rfl) (pa_cons (pv 2) pa_nil))))
        (pss_one ps_never)
        pss_nil)
      (pss_cons (ps_if (pt_cmpR (opNotInS (K := K) rfl) (pv 2) (pe_dget hu (pe_callTy (crDictT (K := K) rfl rfl) (by rfl) T.dict (by decide +kernel) (pa_cons (pe_ix (ixT (K := K) rfl) (pv 0) pe_int (fun _ _ => rfl)) pa_nil)) (pv 1) (fun _ _ => rfl)) (by rfl))
        (pss_one (ps_raise rfl (takes_of rfl rfl rfl rfl) (pmk_own0 PySem.F.excBase_ValueError NT.ex NT.gC NT.kC (raises_own NT.sub NT.ty) rfl)))
        pss_nil)
      (pss_cons (ps_set (i := 3) sc_closed.nd rfl (Or.inl rfl) (pe_lst pa_nil))
      (pss_cons (ps_for (passes_of rfl) rfl (piTup (K := K) rfl (pe_ix (ixT (K := K) rfl) (pv 0) pe_int (fun _ _ => rfl))) (pg_tup rfl (pgs_cons (pg_name (i := 4) sc_closed.nd rfl (Or.inr rfl)) (pgs_cons (pg_name (i := 5) sc_closed.nd rfl (Or.inl rfl)) pgs_nil)))
        (pss_one (ps_expr (pe_bm PySem.F.plainAttrs_list PySem.F.slot_list_append PySem.F.type_list_append mt_append (pv 3) (pa_cons (pe_tup (pa_cons (pv 4) (pa_cons (pe_callTy (crTup (K := K) rfl) (by rfl) T.tuple (by decide +kernel) (pa_cons (pe_lc (own := [("other", 6)]) rfl sc_closed.nd (piTup (K := K) rfl (pv 5)) (blkOk_by (own := [("other", 6)]) (N := N_closed) (sc := defScope s_closed) (by decide +kernel)) (fun _ _ _ _ _ => (pg_name (i := 6) sc_closed.nd rfl (Or.inl rfl))) (fun _ _ _ _ _ => pts_one (PW.pt (pw_or (pt_cmpR op_ne (pv 4) (pv 1) (nomark _)) (pw_or1 (pt_cmpR op_ne (pv 6) (pv 2) (nomark _)))))) (fun _ _ _ _ _ => (pv 6))) pa_nil)) pa_nil))) pa_nil)))))
      (pss_one (ps_ret (pe_tup (pa_cons pe_str (pa_cons (pe_callTy (crTupF (K := K) rfl) (by rfl) T.tuple (by decide +kernel) (pa_cons (pv 3) pa_nil)) pa_nil))))))))))), ?_⟩
    have nd := asc_nodup gc.cur.asc
    obtain ⟨b0, kvs, hab0, hdict, hval⟩ := cal_dict (K := K) hc nd
    obtain ⟨q0, v0, t0⟩ := hval r hr0
    rw [dz_of nd hr0] at hd
    refine q_when (b := false) (et_is (et_not (et_B (ev_callB (ea_cons (ev_var rfl) ea_nil) fun H1 e1 => ⟨a, rows, rfl, hc.mono e1, gc⟩))) rfl) (fun z => by cases z) (fun _ H1 e1 => ?_)
    refine q_when (b := false) (et_is (et_or (et_not (et_B (ev_callB (ea_cons (ev_var rfl) ea_nil) fun _ _ => ⟨r.1, rfl, gc.cur.nm _ (List.mem_map.mpr ⟨r, hr0, rfl⟩)⟩))) fun _ =>
      et_B (ed_dnotin (k := Sum.inr r.1) (ev_var (v := kV (Sum.inr r.1)) rfl) (hdict rfl e1))) (by rw [v0]; rfl)) (fun z => by cases z) (fun _ H2 e2 => ?_)
    refine q_when (b := false) (et_is (et_not (et_B (ev_callB (ea_cons (ev_var rfl) ea_nil) fun _ _ => ⟨d, rfl, d0, d4⟩))) rfl) (fun z => by cases z) (fun _ H3 e3 => ?_)
    have e13 := (e1.trans e2).trans e3
    refine q_when (b := true) (et_is (et_test (ev_op (ev_var rfl) (ed_dget (k := Sum.inr r.1) (hdict rfl e13) (ev_var rfl) v0) (rv_niT (st_of (e13 _ _ t0)) rfl (by simp [flatV])))) (by rw [inV_ints, decide_eq_false hd]; rfl)) (fun _ H4 e4 => ?_) (fun z => by cases z)
    exact q H4 (e13.trans e4)
end
/-! ### _law_caught: the work always raises NotOpen -/
def TTk (C : Addr) : (XK → Hp → VK → Prop) → Hp → VK → Prop := fun tl H Q => ∀ Qn : VK, tl (fun cls d H' => cls = .ref C ∧ d = none ∧ ∀ a, H' a = none → Q (.ref a) (upd H' a (IsO (.ref C) a))) H Qn
theorem caught_gives {X : Cx} {g : Addr} {cdg : Value} {q : Str} {C DE : Addr} (NT : NoT X.K X.mg C DE) : LamX.GivesTo X N__law_caught "_law_caught" (defScope s__law_caught) g cdg (defBody s__law_caught) "work" q (TTk C) := by
  intro f c' s H Q tl act hco h
  refine ⟨_, pss_cons (ps_set (i := 1) sc__law_caught.nd rfl (Or.inl rfl) pe_non) (pss_cons (ps_try_keep (i := 2) (iv := 1) (c := .ref DE)
    (tb := fun W D σ H2 => ∃ Ech : XK, (∀ cls d σ' H', Ech cls d H' → W cls d σ' H') ∧ σ[0]? = some (some (.ref f)) ∧ H2 c' = some (LamX.CodeO c' q) ∧ tl Ech H2 (fun _ H3 => D.nx σ H3))
    rfl rfl rfl sc__law_caught.nd rfl rfl ⟨rfl, by decide, .inl NT.gD⟩ (fun W pn xe tk => ?_) (fun a pn => ?_) (by decide) (show 2 < 3 by decide)) (pss_one (ps_ret (pv 1)))), ?_⟩
  · refine ⟨fun pins s' σ H' D I h' => ?_⟩
    obtain ⟨Ech, hW, h1, h2, h3⟩ := h'
    exact (pss_one (ps_expr (act W pn xe Ech _ _ tk hW))).run pins s' σ H' D I ⟨h1, h2, h3⟩
  · refine ⟨fun pins s' σ H' D I h' => ?_⟩
    obtain ⟨y, h1, h2⟩ := h'
    exact (pss_one (ps_set (i := 1) sc__law_caught.nd rfl (Or.inl rfl) (pv 2))).run pins s' σ H' D I ⟨y, h1, h2⟩
  · refine ⟨fun cls d H' => cls = .ref C ∧ d = none ∧ ∀ a, H' a = none → Q (.ref a) (upd H' a (IsO (.ref C) a)), fun cls d σ' H' hh => ?_, rfl, hco, ?_⟩
    · obtain ⟨rfl, rfl, k⟩ := hh
      refine ⟨NT.exm, rfl, fun hl a ha => ?_⟩
      match σ', hl with
      | [x0, x1, x2], _ => exact ⟨.ref a, rfl, k a ha⟩
    · exact h _
end N56
namespace N56
open PySem PySem.Spec PyProof.Rows L2 Evl
open K56 (Asc days upto num cnt Common Is Never)
/-! ### the law's calendars: name, first day, step -/
abbrev Row := Str × Int × Int
def calOf (R : List Row) : List (Str × List Int) := R.map fun r => (r.1, days r.2.1 r.2.2)
def jn (S : List Row) : List (Int × Int) := S.map fun r => r.2
def nms (S : List Row) : List Str := S.map fun r => r.1
structure GoodR (R : List Row) : Prop where
  cur : GoodCur (nms R)
  sm : ∀ r ∈ R, SmallR r.2
theorem days_good {f s : Int} (h : SmallR (f, s)) : GoodDays (days f s) ∧ f ∈ days f s ∧ f + s ∈ days f s := by
  obtain ⟨h1, h2, h3, h4⟩ := h
  dsimp only at h1 h2 h3 h4
  have s0 : 0 < s := by omega
  have m1 : f ∈ days f s := (K56.mem_upto s0).2 ⟨Int.le_refl _, by omega, ⟨0, by omega⟩⟩
  have m2 : f + s ∈ days f s := (K56.mem_upto s0).2 ⟨by omega, by omega, ⟨1, by omega⟩⟩
  have hl : (days f s).length = num 400 f s := K56.upto_len _ _ _
  refine ⟨⟨List.length_pos_of_mem m1, ?_, K56.upto_asc s0, fun d hd => ?_⟩, m1, m2⟩
  · rw [hl]
    rcases Nat.lt_or_ge 1000 (num 400 f s) with h | h
    · have h5 := (K56.lt_num (m := 400) (f := f) s0 1000).1 h
      have h6 : 1000 * 1 ≤ ((1000 : Nat) : Int) * s := Int.mul_le_mul_of_nonneg_left (by omega) (by omega)
      omega
    · exact h
  · have := (K56.mem_upto s0).1 hd
    omega
theorem nms_cal (R : List Row) : (calOf R).map (·.1) = nms R := by
  unfold calOf nms
  rw [List.map_map]
  rfl
theorem goodCal_of {R : List Row} (h : GoodR R) : GoodCal (calOf R) := by
  refine ⟨by rw [nms_cal]; exact h.cur, fun q hq => ?_⟩
  obtain ⟨r, hr, rfl⟩ := List.mem_map.mp hq
  exact (days_good (h.sm r hr)).1
theorem within_of {R S : List Row} (h : S.Sublist R) : Within (calOf R) (nms S) := fun z hz => by
  obtain ⟨r, hr, rfl⟩ := List.mem_map.mp hz
  exact ⟨_, List.mem_map.mpr ⟨r, h.subset hr, rfl⟩, rfl⟩
theorem goodCur_sub {R S : List Row} (h : GoodR R) (hs : S.Sublist R) (hne : S ≠ []) : GoodCur (nms S) := by
  have hm : (nms S).Sublist (nms R) := hs.map _
  refine ⟨?_, Nat.le_trans hm.length_le h.cur.l4, fun z hz => h.cur.nm z (hm.subset hz), List.Pairwise.sublist hm h.cur.asc⟩
  unfold nms
  rw [List.length_map]
  exact List.length_pos_iff.mpr hne
theorem nd_of {R : List Row} (h : GoodR R) : ((calOf R).map (·.1)).Nodup := by
  rw [nms_cal]
  exact asc_nodup h.cur.asc
theorem dz_cal {R : List Row} (h : GoodR R) {r : Row} (hr : r ∈ R) : dz (calOf R) r.1 = days r.2.1 r.2.2 := dz_of (r := (r.1, days r.2.1 r.2.2)) (nd_of h) (List.mem_map.mpr ⟨r, hr, rfl⟩)
theorem nms_ne {S : List Row} (h : S ≠ []) : nms S ≠ [] := fun e => h (List.map_eq_nil_iff.mp e)
theorem cm_asc {rows : List (Str × List Int)} {zs : List Str} (h : ∀ z ∈ zs, Asc (dz rows z)) : Asc (cm rows zs) := by
  cases zs with
  | nil => exact List.Pairwise.nil
  | cons z r => exact fl_asc rows r _ (h z List.mem_cons_self)
theorem cm_common {R S : List Row} (h : GoodR R) (hs : S.Sublist R) (hne : S ≠ []) (d : Int) : d ∈ cm (calOf R) (nms S) ↔ d ≤ 400 ∧ Common (jn S) d := by
  rw [cm_mem (nms_ne hne)]
  constructor
  · intro k
    obtain ⟨r0, hr0⟩ := List.exists_mem_of_ne_nil S hne
    have at_ : ∀ r ∈ S, r.2.1 ≤ d ∧ d ≤ 400 ∧ r.2.2 ∣ d - r.2.1 := fun r hr => by
      have z := k r.1 (List.mem_map.mpr ⟨r, hr, rfl⟩)
      rw [dz_cal h (hs.subset hr)] at z
      have sm := h.sm r (hs.subset hr)
      exact (K56.mem_upto (by have := sm.2.2.1; omega)).1 z
    refine ⟨(at_ r0 hr0).2.1, fun x hx => ?_⟩
    obtain ⟨r, hr, rfl⟩ := List.mem_map.mp hx
    exact ⟨(at_ r hr).1, (at_ r hr).2.2⟩
  · rintro ⟨d4, hc⟩ z hz
    obtain ⟨r, hr, rfl⟩ := List.mem_map.mp hz
    rw [dz_cal h (hs.subset hr)]
    have sm := h.sm r (hs.subset hr)
    obtain ⟨c1, c2⟩ := hc r.2 (List.mem_map.mpr ⟨r, hr, rfl⟩)
    exact (K56.mem_upto (by have := sm.2.2.1; omega)).2 ⟨c1, d4, c2⟩
/-- what the rows have in common, as the law reckons it -/
abbrev Told := Option (Int × Int)
def dd : Told → List Int
  | none => []
  | some (f, s) => days f s
def ToldIs (S : List Row) : Told → Prop
  | none => Never (jn S)
  | some (f, s) => Is (jn S) f s ∧ 0 ≤ f ∧ f ≤ 400 ∧ 0 < s ∧ s ≤ 20736
theorem cm_asc_cal {R S : List Row} (h : GoodR R) (hs : S.Sublist R) : Asc (cm (calOf R) (nms S)) := cm_asc fun z hz => by
  obtain ⟨r, hr, rfl⟩ := List.mem_map.mp hz
  rw [dz_cal h (hs.subset hr)]
  exact (days_good (h.sm r (hs.subset hr))).1.asc
theorem cm_told {R S : List Row} {t : Told} (h : GoodR R) (hs : S.Sublist R) (hne : S ≠ []) (ht : ToldIs S t) : cm (calOf R) (nms S) = dd t := by
  cases t with
  | none => exact K56.none_of ht (cm_common h hs hne)
  | some p =>
    obtain ⟨f, s⟩ := p
    exact K56.days_of ht.1 ht.2.2.2.1 (cm_asc_cal h hs) (cm_common h hs hne)
theorem dd_rng {S : List Row} {t : Told} (ht : ToldIs S t) : ∀ d ∈ dd t, 0 ≤ d ∧ d ≤ 400 := fun d hd => by
  cases t with
  | none => cases hd
  | some p =>
    obtain ⟨f, s⟩ := p
    obtain ⟨_, f0, f4, s0, _⟩ := ht
    have := (K56.mem_upto s0).1 hd
    omega
theorem upto_len_le {f s : Int} (f0 : 0 ≤ f) (s0 : 0 < s) : (days f s).length ≤ 401 := by
  rw [K56.upto_len]
  rcases Nat.lt_or_ge 401 (num 400 f s) with h | h
  · have h5 := (K56.lt_num (m := 400) (f := f) s0 401).1 h
    have h6 : 401 * 1 ≤ ((401 : Nat) : Int) * s := Int.mul_le_mul_of_nonneg_left (by omega) (by omega)
    omega
  · exact h
theorem dd_len {S : List Row} {t : Told} (ht : ToldIs S t) : (dd t).length ≤ 401 := by
  cases t with
  | none => exact Nat.zero_le _
  | some p =>
    obtain ⟨f, s⟩ := p
    obtain ⟨_, f0, f4, s0, _⟩ := ht
    exact upto_len_le f0 s0
theorem dd_asc {S : List Row} {t : Told} (ht : ToldIs S t) : Asc (dd t) := by
  cases t with
  | none => exact List.Pairwise.nil
  | some p =>
    obtain ⟨f, s⟩ := p
    exact K56.upto_asc ht.2.2.2.1
/-! ### what settles -/
def startOf (late : Bool) (day : Int) : Int := if late then day + 1 else day
/-- due, as the law reckons it -/
def dueI (f s : Int) (late : Bool) (day : Int) (lag : Nat) : Int := f + s * (cnt (startOf late day) f s + (lag : Int))
def capV (i : Int) : V := if i ≤ 400 then .int i else .non
theorem after_is (l : List Int) (late : Bool) (day : Int) : after l late day = l.filter fun d => decide (startOf late day ≤ d) := rfl
theorem due_is {f s : Int} (s0 : 0 < s) (late : Bool) (day : Int) (lag : Nat) : optV (after (days f s) late day)[lag]? = capV (dueI f s late day lag) := by
  rw [after_is]
  unfold capV dueI
  by_cases h : f + s * (cnt (startOf late day) f s + (lag : Int)) ≤ 400
  · rw [K56.after_get s0 h, if_pos h]
    rfl
  · rw [if_neg h]
    have hl : ¬ lag < ((days f s).filter fun d => decide (startOf late day ≤ d)).length := fun z => h ((K56.after_len s0 lag).1 z)
    rw [List.getElem?_eq_none (by omega)]
    rfl
theorem due_none (late : Bool) (day : Int) (lag : Nat) : optV (after (dd none) late day)[lag]? = .non := rfl
/-- the day that some lags lie behind -/
def backI (f s day : Int) (lag : Nat) : Int := (day - f) / s - (lag : Int)
def backV (f s day : Int) (lag : Nat) : V := if f ≤ day ∧ 0 ≤ backI f s day lag then .int (f + s * backI f s day lag) else .non
theorem back_is {f s day : Int} (s0 : 0 < s) (d4 : day ≤ 400) (lag : Nat) : optV (back (upTo (days f s) day) lag) = backV f s day lag := by
  unfold backV back upTo
  by_cases hf : f ≤ day
  · have hl := K56.until_len s0 d4 hf
    have q0 : 0 ≤ (day - f) / s := Int.ediv_nonneg (by omega) (by omega)
    by_cases hi : 0 ≤ backI f s day lag
    · have hi' := hi
      unfold backI at hi'
      rw [if_pos (show lag < ((days f s).filter fun d => decide (d ≤ day)).length by omega), if_pos (show f ≤ day ∧ 0 ≤ backI f s day lag from ⟨hf, hi⟩)]
      have e : ((((days f s).filter fun d => decide (d ≤ day)).length - 1 - lag : Nat) : Int) = backI f s day lag := by
        unfold backI
        omega
      rw [K56.until_get s0 d4 hf (by rw [e]; unfold backI; omega), e]
      rfl
    · have hi' := hi
      unfold backI at hi'
      rw [if_neg (show ¬ lag < ((days f s).filter fun d => decide (d ≤ day)).length by omega), if_neg (show ¬ (f ≤ day ∧ 0 ≤ backI f s day lag) from fun z => hi z.2)]
      rfl
  · rw [K56.until_none s0 d4 (by omega), if_neg (show ¬ (f ≤ day ∧ 0 ≤ backI f s day lag) from fun z => hf z.1)]
    rfl
theorem back_none (day : Int) (lag : Nat) : optV (back (upTo (dd none) day) lag) = .non := rfl
/-- a day of the row: cnt counts its steps -/
theorem cnt_at {f s k : Int} (s0 : 0 < s) (k0 : 0 ≤ k) : cnt (f + s * k) f s = k := by
  have h1 := K56.cnt_least (start := f + s * k) (first := f) s0 k0 (Int.le_refl _)
  have h2 := K56.cnt_le (start := f + s * k) (first := f) s0
  have h3 : s * k ≤ s * cnt (f + s * k) f s := by omega
  have h4 := Int.le_of_mul_le_mul_left h3 s0
  omega
theorem again_is {f s : Int} (s0 : 0 < s) (late : Bool) (day : Int) (lag more : Nat) : dueI f s false (dueI f s late day lag) more = dueI f s late day lag + s * (more : Int) := by
  have c0 := K56.cnt_nonneg (startOf late day) f s
  have e : cnt (startOf false (dueI f s late day lag)) f s = cnt (startOf late day) f s + (lag : Int) := cnt_at s0 (by omega)
  show f + s * (cnt (startOf false (dueI f s late day lag)) f s + (more : Int)) = _
  rw [e]
  unfold dueI
  rw [Int.mul_add s (cnt (startOf late day) f s + (lag : Int)) (more : Int)]
  omega
theorem due_ge {f s : Int} (s0 : 0 < s) (f0 : 0 ≤ f) (late : Bool) (day : Int) (lag : Nat) : 0 ≤ dueI f s late day lag := by
  have c0 := K56.cnt_nonneg (startOf late day) f s
  have := Int.mul_nonneg (Int.le_of_lt s0) (show 0 ≤ cnt (startOf late day) f s + (lag : Int) by omega)
  unfold dueI
  omega
theorem due_le {f s : Int} (s0 : 0 < s) (s2 : s ≤ 20736) (f0 : 0 ≤ f) (f4 : f ≤ 400) (late : Bool) {day : Int} (d0 : 0 ≤ day) (d4 : day ≤ 400) {lag : Nat} (l6 : lag ≤ 60) : dueI f s late day lag ≤ 100000000 ∧ cnt (startOf late day) f s ≤ 30000 := by
  have c1 : cnt (startOf late day) f s ≤ 401 := K56.cnt_least s0 (by omega) (by
    unfold startOf
    have : 1 * 401 ≤ s * 401 := Int.mul_le_mul_of_nonneg_right (by omega) (by omega)
    split <;> omega)
  have c0 := K56.cnt_nonneg (startOf late day) f s
  have c2 : s * (cnt (startOf late day) f s + (lag : Int)) ≤ 20736 * 461 := Int.mul_le_mul s2 (by omega) (by omega) (by omega)
  unfold dueI
  omega
/-! ### a day is closed -/
theorem dz_minus {R : List Row} (h : GoodR R) {r : Row} (hr : r ∈ R) (z : Str) (g : Int) : dz (minus (calOf R) z g) r.1 = (days r.2.1 r.2.2).filter fun o => decide (r.1 ≠ z) || decide (o ≠ g) := by
  have hn : ((minus (calOf R) z g).map (·.1)).Nodup := by
    have e : (minus (calOf R) z g).map (·.1) = (calOf R).map (·.1) := by
      unfold minus
      rw [List.map_map]
      rfl
    rw [e]
    exact nd_of h
  exact dz_of (r := (r.1, (days r.2.1 r.2.2).filter fun o => decide (r.1 ≠ z) || decide (o ≠ g))) hn (List.mem_map.mpr ⟨(r.1, days r.2.1 r.2.2), List.mem_map.mpr ⟨r, hr, rfl⟩, rfl⟩)
theorem nms_minus (R : List Row) (z : Str) (g : Int) : (minus (calOf R) z g).map (·.1) = nms R := by
  unfold minus
  rw [List.map_map]
  exact nms_cal R
theorem goodDays_filter {ns : List Int} (h : GoodDays ns) (p : Int → Bool) (x : Int) (hx : x ∈ ns) (px : p x = true) : GoodDays (ns.filter p) :=
  ⟨List.length_pos_of_mem (List.mem_filter.mpr ⟨hx, px⟩), Nat.le_trans (List.length_filter_le _ _) h.l1000, h.asc.filter _, fun d hd => h.rng d (List.mem_filter.mp hd).1⟩
theorem goodCal_minus {R : List Row} (h : GoodR R) (z : Str) (g : Int) : GoodCal (minus (calOf R) z g) := by
  refine ⟨by rw [nms_minus]; exact h.cur, fun q hq => ?_⟩
  obtain ⟨q2, hq2, rfl⟩ := List.mem_map.mp hq
  obtain ⟨r, hr, rfl⟩ := List.mem_map.mp hq2
  have sm := h.sm r hr
  obtain ⟨gd, m1, m2⟩ := days_good sm
  have s1 := sm.2.2.1
  show GoodDays ((days r.2.1 r.2.2).filter fun o => decide (r.1 ≠ z) || decide (o ≠ g))
  by_cases e : r.2.1 = g
  · exact goodDays_filter gd _ _ m2 (by
      show (decide (r.1 ≠ z) || decide (r.2.1 + r.2.2 ≠ g)) = true
      have s2 : 1 ≤ r.2.2 := s1
      rw [decide_eq_true (show r.2.1 + r.2.2 ≠ g by omega), Bool.or_true])
  · exact goodDays_filter gd _ _ m1 (by rw [Bool.or_eq_true]; exact Or.inr (decide_eq_true e))
theorem within_minus {R S : List Row} (h : S.Sublist R) (z : Str) (g : Int) : Within (minus (calOf R) z g) (nms S) := fun y hy => by
  obtain ⟨r, hr, rfl⟩ := within_of h y hy
  exact ⟨minusR z g r, List.mem_map.mpr ⟨r, hr, rfl⟩, rfl⟩
theorem cm_one {rows : List (Str × List Int)} (z : Str) : cm rows [z] = dz rows z := rfl
/-- the closed one alone -/
theorem cm_minus_one {R : List Row} (h : GoodR R) {r : Row} (hr : r ∈ R) (g : Int) : cm (minus (calOf R) r.1 g) [r.1] = (days r.2.1 r.2.2).filter fun o => decide (o ≠ g) := by
  rw [cm_one, dz_minus h hr]
  congr 1
  funext o
  rw [decide_eq_false (fun z => z rfl)]
  rfl
/-- all of some, the closed one among them -/
theorem cm_minus {R S : List Row} {t : Told} (h : GoodR R) (hs : S.Sublist R) (ht : ToldIs S t) {r : Row} (hr : r ∈ S) (g : Int) : cm (minus (calOf R) r.1 g) (nms S) = (dd t).filter fun o => decide (o ≠ g) := by
  have hne : S ≠ [] := List.ne_nil_of_mem hr
  rw [← cm_told h hs hne ht]
  refine K56.asc_ext (cm_asc fun z hz => ?_) ((cm_asc_cal h hs).filter _) fun d => ?_
  · obtain ⟨q, hq, rfl⟩ := List.mem_map.mp hz
    rw [dz_minus h (hs.subset hq)]
    exact ((days_good (h.sm q (hs.subset hq))).1.asc).filter _
  · rw [List.mem_filter, cm_mem (nms_ne hne), cm_mem (nms_ne hne), decide_eq_true_eq]
    constructor
    · intro k
      refine ⟨fun z hz => ?_, ?_⟩
      · have := k z hz
        obtain ⟨q, hq, rfl⟩ := List.mem_map.mp hz
        rw [dz_minus h (hs.subset hq)] at this
        rw [dz_cal h (hs.subset hq)]
        exact (List.mem_filter.mp this).1
      · have := k r.1 (List.mem_map.mpr ⟨r, hr, rfl⟩)
        rw [dz_minus h (hs.subset hr)] at this
        have z := (List.mem_filter.mp this).2
        rw [decide_eq_false (fun z => z rfl), Bool.false_or, decide_eq_true_eq] at z
        exact z
    · rintro ⟨k, hd⟩ z hz
      have := k z hz
      obtain ⟨q, hq, rfl⟩ := List.mem_map.mp hz
      rw [dz_minus h (hs.subset hq)]
      rw [dz_cal h (hs.subset hq)] at this
      exact List.mem_filter.mpr ⟨this, by rw [decide_eq_true hd, Bool.or_true]⟩
/-- the day behind a closed one -/
theorem next_is {f s g : Int} (s0 : 0 < s) (hg : g ∈ days f s) (hl : (days f s).getLast? ≠ some g) : optV (after ((days f s).filter fun o => decide (o ≠ g)) false g)[0]? = .int (g + s) := by
  have e : after ((days f s).filter fun o => decide (o ≠ g)) false g = after (days f s) true g := by
    rw [after_is, after_is, List.filter_filter]
    congr 1
    funext o
    show (decide (g ≤ o) && decide (o ≠ g)) = decide (g + 1 ≤ o)
    by_cases h : g + 1 ≤ o
    · rw [decide_eq_true h, decide_eq_true (by omega), decide_eq_true (by omega)]
      rfl
    · rw [decide_eq_false h]
      by_cases h2 : g ≤ o
      · rw [decide_eq_false (show ¬ o ≠ g by omega), Bool.and_false]
      · rw [decide_eq_false h2, Bool.false_and]
  rw [e, due_is s0]
  obtain ⟨i, hi, eg⟩ := K56.mem_steps.1 hg
  have c1 : cnt (startOf true g) f s = (i : Int) + 1 := by
    have a1 : startOf true g = g + 1 := rfl
    have mi : (i : Int) * s = s * (i : Int) := Int.mul_comm _ _
    have a2 : s * ((i : Int) + 1) = s * (i : Int) + s := by rw [Int.mul_add, Int.mul_one]
    have h1 := K56.cnt_least (start := g + 1) (first := f) s0 (i := (i : Int) + 1) (by omega) (by omega)
    have h2 := K56.cnt_le (start := g + 1) (first := f) s0
    have h3 : s * (i : Int) < s * cnt (g + 1) f s := by omega
    have h4 := Int.lt_of_mul_lt_mul_left h3 (Int.le_of_lt s0)
    rw [a1]
    omega
  have hn : i + 1 < num 400 f s := by
    rcases Nat.lt_or_ge (i + 1) (num 400 f s) with h | h
    · exact h
    · exfalso
      apply hl
      have hlen : (days f s).length = num 400 f s := K56.upto_len _ _ _
      rw [List.getLast?_eq_getElem?, hlen, show num 400 f s - 1 = i by omega]
      show (K56.steps f s (num 400 f s))[i]? = _
      rw [K56.steps_get hi, eg]
  have h400 := (K56.lt_num (m := 400) (f := f) s0 (i + 1)).1 hn
  have ed : dueI f s true g 0 = g + s := by
    unfold dueI
    rw [c1]
    have mi : (i : Int) * s = s * (i : Int) := Int.mul_comm _ _
    have a2 : s * ((i : Int) + 1 + ((0 : Nat) : Int)) = s * (i : Int) + s := by
      rw [Int.mul_add, Int.mul_add, Int.mul_one]
      simp
    omega
  rw [ed]
  unfold capV
  rw [if_pos]
  have mi : ((i + 1 : Nat) : Int) * s = (i : Int) * s + s := by
    rw [Int.natCast_add, Int.add_mul]
    simp
  omega
end N56
namespace N56
open PySem PySem.Spec PyProof.Rows L2 Evl
/-! ### settles, called with keywords alone -/
structure CalK (P : Program) (w : World) (K : PySem.W.Frag) (mg : Str → Option Value) (base : Heap) (k : Nat) (x : Str) (ps ks : List Str) (g : List Value → List Value → List Value) (gV : List V → List V → List V) (sp : Sp) : Prop where
  ex : ∃ (f : Addr) (fd : FuncData), FnOk P w K mg base CX0 k f fd ps sp ∧ mg x = some (.ref f) ∧ PySem.W.keepIn K (.ref f) = true ∧ KBinds K fd ps ks g gV
section
variable {X : Cx} {k j : Nat} {x : Str} {ps ks : List Str} {g : List Value → List Value → List Value} {gV : List V → List V → List V} {sp : Sp} {p pos : Pos} {kws : List Keyword} {tk : TA}
theorem pe_clK0 (c : CalK X.prog X.w X.K X.mg X.base k x ps ks g gV sp) (hr : Room j X.A) (hk : k ≤ j) (hg : Gl X x) (hkw : PK X kws tk) (hall : (backToKw pos (keywordEach kws X.env)).all (·.1.isSome) = true := by rfl)
    (hks : (backToKw pos (keywordEach kws X.env)).filterMap (·.1) = ks := by rfl) (hdb : (x == ("__debug__" : Str)) = false := by decide) (hpl : ((backTo pos (starEach [] X.env)).any (·.1) || (backToKw pos (keywordEach kws X.env)).any (·.1.isNone)) = false := by rfl) :
    PE X (.Call (.Name x p) [] kws pos) (tCallK sp gV E0 tNil tk) := by
  obtain ⟨f, fd, F, hm, kp, b⟩ := c.ex
  refine ⟨fun pins s σ H Q I h => wpAny_Call_Name_kw (ld_glob I hg hm (PySem.W.callWith_KW0 (h₀ := X.base) I.ok.mod.kin kp hall (thn (hkw.run pos pins s σ H _ I h) fun ws s2 hh => ?_) hpl) hdb)⟩
  obtain ⟨zs, H2, I2, rz, q⟩ := hh
  refine ⟨I2.kIn, ?_⟩
  rw [hks]
  exact run_fnk (us := []) (vs := []) F (hr.mono hk) b pass0 I2 .nil rz q
end
def gSet (us ws : List Value) : List Value := match us, ws with
  | [], [a, b, c, d, e] => [e, d, c, b, a]
  | _, _ => []
def gSetV (vs zs : List V) : List V := match vs, zs with
  | [], [a, b, c, d, e] => [e, d, c, b, a]
  | _, _ => []
theorem gSet_rel {vs zs : List V} {us ws : List Value} (r : Vals vs us) (q : Vals zs ws) : Vals (gSetV vs zs) (gSet us ws) := by
  cases r with
  | cons _ _ => exact .nil
  | nil => match q with
    | .nil => exact .nil
    | .cons _ .nil => exact .nil
    | .cons _ (.cons _ .nil) => exact .nil
    | .cons _ (.cons _ (.cons _ .nil)) => exact .nil
    | .cons _ (.cons _ (.cons _ (.cons _ .nil))) => exact .nil
    | .cons h1 (.cons h2 (.cons h3 (.cons h4 (.cons h5 .nil)))) => exact .cons h5 (.cons h4 (.cons h3 (.cons h2 (.cons h1 .nil))))
    | .cons _ (.cons _ (.cons _ (.cons _ (.cons _ (.cons _ _))))) => exact .nil
abbrev lamQ : Str := "law.<locals>.<lambda>"
def spLaw (K : PySem.W.Frag) (PT : Addr) : Sp := fun vs H Q _ => ∃ (s : Addr) (ns : List Int), vs = [.ref s] ∧ SqL K H s (ns.map V.int) ∧ ns.length ≤ 63 ∧ H PT = some (.tbl #[]) ∧ ∀ H', Q (.bl true) H'
end N56
namespace N56
open PySem PySem.Spec PyProof.Rows L2 Evl
/-! ### data on the way to repr -/
mutual
theorem dp_mono {K : PySem.W.Frag} {H H' : Hp} (e : Ex H H') : ∀ (d : PyData) (v : V), Dp K H v d → Dp K H' v d
  | .none, _, h => by
    cases h
    exact .non
  | .bool b, _, h => by
    cases h
    exact .bl b
  | .int i, _, h => by
    cases h
    exact .int i
  | .str z, _, h => by
    cases h
    exact .str z
  | .list ds, _, h => by
    cases h with
    | lst h1 h2 => exact .lst (ex_l e h1) (dpAll_mono e ds _ h2)
  | .tuple ds, _, h => by
    cases h with
    | tup h1 h2 => exact .tup (ex_t e h1) (dpAll_mono e ds _ h2)
  | .dict _, _, h => by cases h
theorem dpAll_mono {K : PySem.W.Frag} {H H' : Hp} (e : Ex H H') : ∀ (ds : List PyData) (vs : List V), DpAll K H vs ds → DpAll K H' vs ds
  | [], _, h => by
    cases h
    exact .nil
  | d :: ds, _, h => by
    cases h with
    | cons h1 h2 => exact .cons (dp_mono e d _ h1) (dpAll_mono e ds _ h2)
end
/-- a value that reads as d -/
def EvP (K : PySem.W.Frag) (te : TE) (σ : L2.St) (H : Hp) (d : PyData) : Prop := ∀ H1, Ex H H1 → ∀ Q : VK, (∀ v H2, Ex H1 H2 → Dp K H2 v d → Q v H2) → te σ H1 Q
/-- None or a number -/
def NoI (v : V) : Prop := v = .non ∨ ∃ i : Int, v = .int i ∧ i.natAbs < 10 ^ 12
def dV : V → PyData
  | .int i => .int i
  | _ => .none
theorem NoI.dp {K : PySem.W.Frag} {v : V} (h : NoI v) (H : Hp) : Dp K H v (dV v) := by
  rcases h with rfl | ⟨i, rfl, _⟩
  · exact .non
  · exact .int i
theorem NoI.sm {v : V} (h : NoI v) : SmI (dV v) := by
  rcases h with rfl | ⟨i, rfl, hi⟩
  · exact smI_non
  · exact smI_int hi
section
variable {K : PySem.W.Frag} {σ : L2.St} {H H' : Hp} {ta tb te tx td ty : TE} {t u : TT} {x y z v : V} {tr : TA} {D : Ends} {tz : TS} {d e : PyData}
theorem ep_v (h : Ev te σ H v) (hv : NoI v) : EvP K te σ H (dV v) := fun H1 e1 Q q => h H1 e1 Q fun H2 e2 => q v H2 e2 (hv.dp H2)
theorem ep_bl {b : Bool} (h : Ev te σ H (.bl b)) : EvP K te σ H (.bool b) := fun H1 e1 Q q => h H1 e1 Q fun H2 e2 => q _ H2 e2 (.bl b)
theorem ep_w {ns : List Int} (h : EvW te σ H (ns.map V.int)) : EvP K te σ H (.tuple (ns.map .int)) := fun H1 e1 Q q => h H1 e1 Q fun p H2 e2 hp => q _ H2 e2 (dp_tup hp)
theorem ep_two (ha : EvP K ta σ H d) (hb : EvP K tb σ H e) : EvP K (tLst (tCons ta (tCons tb tNil))) σ H (.list [d, e]) := fun H1 e1 Q q => by
  refine ha H1 e1 _ fun x H2 e2 hx => ?_
  refine hb H2 (e1.trans e2) _ fun y H3 e3 hy => ?_
  refine ⟨(by show 2 ≤ sizeLine; decide), fun p hp => ?_⟩
  have x4 : Ex H3 (upd H3 p (.lst [x, y])) := Ex.new hp
  exact q _ _ ((e2.trans e3).trans x4) (dp_two upd_same (dp_mono (e3.trans x4) _ _ hx) (dp_mono x4 _ _ hy))
theorem ev_same (ha : EvP K ta σ H d) (hb : EvP K tb σ H d) (hs : Sm d) : Ev (tCall (spSame K) [] E0 (tCons ta (tCons tb tNil))) σ H (.bl true) := fun H1 e1 Q q => by
  refine ha H1 e1 _ fun x H2 e2 hx => ?_
  refine hb H2 (e1.trans e2) _ fun y H3 e3 hy => ?_
  exact ⟨x, y, d, rfl, dp_mono e3 _ _ hx, hy, hs, q H3 (e2.trans e3)⟩
/-- if not _law_same(..): return False -/
theorem q_same (ha : EvP K ta σ H d) (hb : EvP K tb σ H d) (hs : Sm d) (k : ∀ H1, Ex H H1 → tz D σ H1) : tSeq (tIfS (tNot (tB (tCall (spSame K) [] E0 (tCons ta (tCons tb tNil))))) (tRet (tC (.bl false))) tNext) tz D σ H :=
  q_when (b := false) (et_is (et_not (et_B (ev_same ha hb hs))) rfl) (fun z => by cases z) fun _ H1 e1 => k H1 e1
theorem s_same (ha : EvP K ta σ H d) (hb : EvP K tb σ H d) (hs : Sm d) (k : ∀ H1, Ex H H1 → D.nx σ H1) : tIfS (tNot (tB (tCall (spSame K) [] E0 (tCons ta (tCons tb tNil))))) (tRet (tC (.bl false))) tNext D σ H :=
  s_when (b := false) (et_is (et_not (et_B (ev_same ha hb hs))) rfl) (fun z => by cases z) fun _ H1 e1 => k H1 e1
theorem ev_setK {vs : List V} {rows : List (Str × List Int)} {zs : List Str} {day : Int} {late : Bool} {lag : Nat} (h : EvA tr σ H vs) (ha : ArgS (gSetV [] vs) H rows zs day late lag) : Ev (tCallK spSet gSetV E0 tNil tr) σ H (optV (after (cm rows zs) late day)[lag]?) := fun H1 e Q q => by
  refine h H1 e _ fun H2 e2 => ?_
  exact ⟨rows, zs, day, late, lag, ha.mono (e.trans e2), fun H' e3 => q H' (e2.trans e3)⟩
abbrev rNotNon : R2 := fun x y H Q => y = .non ∧ Q (.bl (!decide (x = .non))) H
theorem ev_notNon (ha : Ev ta σ H x) : Ev (tOp rNotNon ta (tC .non)) σ H (.bl (!decide (x = .non))) := ev_op ha ev_c fun H1 _ _ q => ⟨rfl, q H1 (Ex.refl H1)⟩
end
/-! ### what stands in a turn -/
def RowsH (H : Hp) (rw : Addr) (R : List Row) : Prop := ∃ kvs : List (Key × V), H rw = some (.dK kvs) ∧ ∀ r ∈ R, ∃ p, valV kvs (Sum.inr r.1) = some (.ref p) ∧ H p = some (.tup [.int r.2.1, .int r.2.2])
def ToldH (H : Hp) (v : V) : Told → Prop
  | none => v = .non
  | some (f, s) => ∃ p, v = .ref p ∧ H p = some (.tup [.int f, .int s])
structure Bk (a l rw cal so dy : Addr) (tv : V) (R S : List Row) (t : Told) (H : Hp) : Prop where
  na : rw ≠ a
  nl : rw ≠ l
  rows : RowsH H rw R
  cal : CalH H cal (calOf R)
  so : H so = some (.tup ((nms S).map V.str))
  told : ToldH H tv t
  dy : H dy = some (.tup ((dd t).map V.int))
theorem RowsH.mono {H H' : Hp} {rw : Addr} {R : List Row} (h : RowsH H rw R) (e : Ex H H') : RowsH H' rw R := by
  obtain ⟨kvs, h1, h2⟩ := h
  refine ⟨kvs, e _ _ h1, fun r hr => ?_⟩
  obtain ⟨p, h3, h4⟩ := h2 r hr
  exact ⟨p, h3, e _ _ h4⟩
theorem ToldH.mono {H H' : Hp} {v : V} {t : Told} (h : ToldH H v t) (e : Ex H H') : ToldH H' v t := by
  cases t with
  | none => exact h
  | some q =>
    obtain ⟨f, s⟩ := q
    obtain ⟨p, h1, h2⟩ := h
    exact ⟨p, h1, e _ _ h2⟩
theorem Bk.mono {a l rw cal so dy : Addr} {tv : V} {R S : List Row} {t : Told} {H H' : Hp} (h : Bk a l rw cal so dy tv R S t H) (e : Ex H H') : Bk a l rw cal so dy tv R S t H' :=
  ⟨h.na, h.nl, h.rows.mono e, h.cal.mono e, e _ _ h.so, h.told.mono e, e _ _ h.dy⟩
section
variable {a l c : Addr} {N : Nat} {H H' : Hp}
theorem Dr.neT (d : Dr a l c N H) {b : Addr} {xs : List V} (h : H b = some (.tup xs)) : b ≠ a ∧ b ≠ l := by
  obtain ⟨kvs, lg, cs, rest, turn, h1, h2, h3, h4, h5, h6, h7, h8, h9⟩ := d.ex
  exact ⟨ne_of h h1 (by intro z; cases z), ne_of h h7 (by intro z; cases z)⟩
theorem Dr.neF (d : Dr a l c N H) {b : Addr} {o : Obj} {x : HO} (h : H b = some (.frz o x)) : b ≠ a ∧ b ≠ l := by
  obtain ⟨kvs, lg, cs, rest, turn, h1, h2, h3, h4, h5, h6, h7, h8, h9⟩ := d.ex
  exact ⟨ne_of h h1 (by intro z; cases z), ne_of h h7 (by intro z; cases z)⟩
theorem Dr.neB (d : Dr a l c N H) {b : Addr} {ps : Array Value} (h : H b = some (.tbl ps)) : b ≠ a ∧ b ≠ l := by
  obtain ⟨kvs, lg, cs, rest, turn, h1, h2, h3, h4, h5, h6, h7, h8, h9⟩ := d.ex
  exact ⟨ne_of h h1 (by intro z; cases z), ne_of h h7 (by intro z; cases z)⟩
theorem Dr.neE (d : Dr a l c N H) {b : Addr} {q : Str} (h : H b = some (LamX.CodeO b q)) : b ≠ a ∧ b ≠ l := by
  obtain ⟨kvs, lg, cs, rest, turn, h1, h2, h3, h4, h5, h6, h7, h8, h9⟩ := d.ex
  exact ⟨ne_of h h1 (by intro z; cases z), ne_of h h7 (by intro z; cases z)⟩
theorem Dr.newNe (d : Dr a l c N H) {b : Addr} (h : H b = none) : b ≠ a ∧ b ≠ l := by
  obtain ⟨kvs, lg, cs, rest, turn, h1, h2, h3, h4, h5, h6, h7, h8, h9⟩ := d.ex
  exact ⟨fun e => (by rw [e, h1] at h; cases h), fun e => (by rw [e, h7] at h; cases h)⟩
theorem Dr.tup (d : Dr a l c N H) (e : ExD a l H H') {b : Addr} {xs : List V} (h : H b = some (.tup xs)) : H' b = some (.tup xs) := e b _ h (d.neT h).1 (d.neT h).2
theorem RowsH.exD {rw : Addr} {R : List Row} (h : RowsH H rw R) (d : Dr a l c N H) (e : ExD a l H H') (na : rw ≠ a) (nl : rw ≠ l) : RowsH H' rw R := by
  obtain ⟨kvs, h1, h2⟩ := h
  refine ⟨kvs, e _ _ h1 na nl, fun r hr => ?_⟩
  obtain ⟨p, h3, h4⟩ := h2 r hr
  exact ⟨p, h3, d.tup e h4⟩
theorem CalH.exD {cal : Addr} {rows : List (Str × List Int)} (h : CalH H cal rows) (d : Dr a l c N H) (e : ExD a l H H') : CalH H' cal rows := by
  obtain ⟨b, o, ps, qs, h1, h2, h3, h4, h5, h6⟩ := h.ex
  exact ⟨b, o, ps, qs, d.tup e h1, e b _ h2 (d.neF h2).1 (d.neF h2).2, h3, h4, h5, fun i p q r x y z => ⟨d.tup e (h6 i p q r x y z).1, d.tup e (h6 i p q r x y z).2⟩⟩
theorem ToldH.exD {v : V} {t : Told} (h : ToldH H v t) (d : Dr a l c N H) (e : ExD a l H H') : ToldH H' v t := by
  cases t with
  | none => exact h
  | some q =>
    obtain ⟨f, s⟩ := q
    obtain ⟨p, h1, h2⟩ := h
    exact ⟨p, h1, d.tup e h2⟩
theorem Bk.exD {rw cal so dy : Addr} {tv : V} {R S : List Row} {t : Told} (h : Bk a l rw cal so dy tv R S t H) (d : Dr a l c N H) (e : ExD a l H H') : Bk a l rw cal so dy tv R S t H' :=
  ⟨h.na, h.nl, h.rows.exD d e h.na h.nl, h.cal.exD d e, d.tup e h.so, h.told.exD d e, d.tup e h.dy⟩
/-- the tables of the lambda's code -/
abbrev TbL (PT : Addr) (H : Hp) : Prop := LamX.Tabs [(PT, lamQ)] H
theorem tb_exD {PT : Addr} (h : TbL PT H) (d : Dr a l c N H) (e : ExD a l H H') : TbL PT H' := fun p hp => by
  obtain ⟨ps, h1, h2, h3⟩ := h p hp
  refine ⟨ps, e _ _ h1 (d.neB h1).1 (d.neB h1).2, h2, fun pos cv hc => ?_⟩
  obtain ⟨cc, e1, e2⟩ := h3 pos cv hc
  exact ⟨cc, e1, e _ _ e2 (d.neE e2).1 (d.neE e2).2⟩
theorem tb_ex {PT : Addr} (h : TbL PT H) (e : Ex H H') : TbL PT H' := h.ext e
end
end N56
namespace N56
open PySem PySem.Spec PyProof.Rows L2 Evl
open K56 (days cnt)
/-! ### a lap of the law -/
def tLap3 (K : PySem.W.Frag) : TS := (tIfS (tTest (tOp rNotNon (tVar 14) (tC .non))) (tSeq (tAsg (tCall spTake [] E0 (tCons (tVar 1) (tCons (tC (.int 9)) tNil))) (gName 19)) (tSeq (tAsg (tOp (rI0 fun i j => .int (i + j)) (tVar 14) (tOp (rI CMul fun i j => .int (i * j)) (tOp (rIxT K) (tVar 8) (tC (.int 1))) (tVar 19))) (gName 20)) (tIfS (tNot (tB (tCall (spSame K) [] E0 (tCons (tCall spSet [] E0 (tCons (tVar 6) (tCons (tVar 7) (tCons (tVar 14) (tCons (tC (.bl false)) (tCons (tVar 19) tNil)))))) (tCons (tIf (tTest (tOp (rI0 fun i j => .bl (decide (i ≤ j))) (tVar 20) (tC (.int 400)))) (tVar 20) (tC .non)) tNil))))) (tRet (tC (.bl false))) tNext))) tNext)
def tLap2 (K : PySem.W.Frag) : TS := (tSeq (tIfS (tNot (tB (tCall (spSame K) [] E0 (tCons (tLst (tCons (tCall spSet [] E0 (tCons (tVar 6) (tCons (tVar 7) (tCons (tVar 11) (tCons (tVar 12) (tCons (tVar 13) tNil)))))) (tCons (tCallK spSet gSetV E0 tNil (tCons (tVar 13) (tCons (tVar 12) (tCons (tVar 11) (tCons (tVar 7) (tCons (tVar 6) tNil)))))) tNil))) (tCons (tLst (tCons (tVar 14) (tCons (tVar 14) tNil))) tNil))))) (tRet (tC (.bl false))) tNext) (tSeq (tIfS (tNot (tB (tCall (spSame K) [] E0 (tCons (tCall spLat [] E0 (tCons (tVar 6) (tCons (tVar 7) (tCons (tVar 11) (tCons (tVar 13) tNil))))) (tCons (tVar 15) tNil))))) (tRet (tC (.bl false))) tNext) (tLap3 K)))
def tLap (K : PySem.W.Frag) : TS := (tSeq (tPar3 11 12 13 (tCons (tCall spTake [] E0 (tCons (tVar 1) (tCons (tC (.int 401)) tNil))) (tCons (tOp rEq (tCall spTake [] E0 (tCons (tVar 1) (tCons (tC (.int 2)) tNil))) (tC (.int 0))) (tCons (tCall spPick [] E0 (tCons (tVar 1) (tCons (tLst (tCons (tC (.int 0)) (tCons (tC (.int 1)) (tCons (tCall spTake [] E0 (tCons (tVar 1) (tCons (tC (.int 60)) tNil))) tNil)))) tNil))) tNil)))) (tSeq (tAsg (tTup (tCons (tC .non) (tCons (tC .non) tNil))) (gTup K 2 (gCons (gName 14) (gCons (gName 15) gNil)))) (tSeq (tIfS (tTest (tOp rNotNon (tVar 8) (tC .non))) (tSeq (tAsg (tIf (tB (tVar 12)) (tOp (rI0 fun i j => .int (i + j)) (tVar 11) (tC (.int 1))) (tVar 11)) (gName 16)) (tSeq (tAsg (tCB (fun xs H Q => ∃ i j, xs = [.int i, .int j] ∧ Q (.int (if j > i then j else i)) H) (tCons (tC (.int 0)) (tCons (tOp (rI CDiv fun i j => .int (i / j)) (tOp (rI0 fun i j => .int (i - j)) (tOp (rI0 fun i j => .int (i + j)) (tOp (rI0 fun i j => .int (i - j)) (tVar 16) (tOp (rIxT K) (tVar 8) (tC (.int 0)))) (tOp (rIxT K) (tVar 8) (tC (.int 1)))) (tC (.int 1))) (tOp (rIxT K) (tVar 8) (tC (.int 1)))) tNil))) (gName 17)) (tSeq (tAsg (tOp (rI0 fun i j => .int (i + j)) (tOp (rIxT K) (tVar 8) (tC (.int 0))) (tOp (rI CMul fun i j => .int (i * j)) (tOp (rIxT K) (tVar 8) (tC (.int 1))) (tOp (rI0 fun i j => .int (i + j)) (tVar 17) (tVar 13)))) (gName 14)) (tSeq (tAsg (tIf (tTest (tOp (rI0 fun i j => .bl (decide (i ≤ j))) (tVar 14) (tC (.int 400)))) (tVar 14) (tC .non)) (gName 14)) (tSeq (tAsg (tOp (rI0 fun i j => .int (i - j)) (tOp (rI CDiv fun i j => .int (i / j)) (tOp (rI0 fun i j => .int (i - j)) (tVar 11) (tOp (rIxT K) (tVar 8) (tC (.int 0)))) (tOp (rIxT K) (tVar 8) (tC (.int 1)))) (tVar 13)) (gName 18)) (tIfS (tAnd (tTest (tOp (rI0 fun i j => .bl (decide (j ≤ i))) (tVar 11) (tOp (rIxT K) (tVar 8) (tC (.int 0))))) (tTest (tOp (rI0 fun i j => .bl (decide (j ≤ i))) (tVar 18) (tC (.int 0))))) (tAsg (tOp (rI0 fun i j => .int (i + j)) (tOp (rIxT K) (tVar 8) (tC (.int 0))) (tOp (rI CMul fun i j => .int (i * j)) (tOp (rIxT K) (tVar 8) (tC (.int 1))) (tVar 18))) (gName 15)) tNext)))))) tNext) (tLap2 K))))

/-- law's slots: script, draw, turn, names, rows, name, calendar, some, told, days, then z: lap, day, late, lag, due, back, start, count, index, more, again, own, gone, less -/
abbrev sg (s a : Addr) (y2 y3 : Option V) (rw : Addr) (y5 : Option V) (cal so : Addr) (tv : V) (dy : Addr) (z : List (Option V)) : L2.St := some (.ref s) :: some (.ref a) :: y2 :: y3 :: some (.ref rw) :: y5 :: some (.ref cal) :: some (.ref so) :: some tv :: some (.ref dy) :: z
theorem capV_noI {i : Int} (h : 0 ≤ i) : NoI (capV i) := by
  unfold capV
  split
  · exact Or.inr ⟨i, rfl, by omega⟩
  · exact Or.inl rfl
theorem backV_noI {f s day : Int} {lag : Nat} (f0 : 0 ≤ f) (s0 : 0 < s) (s2 : s ≤ 20736) (d4 : day ≤ 400) : NoI (backV f s day lag) := by
  unfold backV
  split
  · rename_i h
    obtain ⟨h1, h2⟩ := h
    have h2' := h2
    unfold backI at h2'
    have q1 : (day - f) / s ≤ day - f := Int.ediv_le_self _ (by omega)
    have q2 : backI f s day lag ≤ 400 := by
      unfold backI
      omega
    have q3 : s * backI f s day lag ≤ 20736 * 400 := Int.mul_le_mul s2 q2 h2 (by omega)
    have q4 := Int.mul_nonneg (Int.le_of_lt s0) h2
    exact Or.inr ⟨_, rfl, by omega⟩
  · exact Or.inl rfl
theorem told_noI {S : List Row} {t : Told} (hT : ToldIs S t) (late : Bool) (day : Int) (lag : Nat) : NoI (optV (after (dd t) late day)[lag]?) := by
  cases t with
  | none => exact Or.inl rfl
  | some p =>
    obtain ⟨f, s⟩ := p
    obtain ⟨_, f0, f4, s0, s2⟩ := hT
    rw [show dd (some (f, s)) = days f s from rfl, due_is s0]
    exact capV_noI (due_ge s0 f0 late day lag)
section
variable {K : PySem.W.Frag} {D : Ends} {s a l c rw cal so dy : Addr} {tv dv bv : V} {y2 y3 y5 y10 y16 y17 y18 y19 y20 y21 y22 y23 : Option V} {R S : List Row} {t : Told} {N : Nat} {H : Hp} {day : Int} {late : Bool} {lag : Nat}
theorem lap3_ok (hG : GoodR R) (hS : S.Sublist R) (hne : S ≠ []) (hT : ToldIs S t) (hD : Dr a l c N H) (hN : N + 10 < 1000000) (hB : Bk a l rw cal so dy tv R S t H) (hdv : dv = optV (after (dd t) late day)[lag]?) (d0 : 0 ≤ day) (d4 : day ≤ 400) (l6 : lag ≤ 60)
    (k : ∀ (y19 y20 : Option V) H', Dr a l c (N + 1) H' → ExD a l H H' → D.nx (sg s a y2 y3 rw y5 cal so tv dy [y10, some (.int day), some (.bl late), some (.int lag), some dv, some bv, y16, y17, y18, y19, y20, y21, y22, y23]) H') :
    tLap3 K D (sg s a y2 y3 rw y5 cal so tv dy [y10, some (.int day), some (.bl late), some (.int lag), some dv, some bv, y16, y17, y18, y19, y20, y21, y22, y23]) H := by
  have skip : dv = .non → tLap3 K D (sg s a y2 y3 rw y5 cal so tv dy [y10, some (.int day), some (.bl late), some (.int lag), some dv, some bv, y16, y17, y18, y19, y20, y21, y22, y23]) H := fun e => by
    refine s_when (b := false) (et_is (et_test (ev_notNon (ev_var rfl))) (by rw [e]; rfl)) (fun z => by cases z) fun _ H1 e1 => ?_
    exact k y19 y20 H1 ((hD.mono e1).up (Nat.le_succ _)) (ExD.of e1)
  cases t with
  | none => exact skip hdv
  | some p =>
    obtain ⟨f, st⟩ := p
    obtain ⟨hI, f0, f4, s0, s2⟩ := hT
    rw [show dd (some (f, st)) = days f st from rfl, due_is s0] at hdv
    by_cases hd : dueI f st late day lag ≤ 400
    · rw [show capV (dueI f st late day lag) = .int (dueI f st late day lag) from if_pos hd] at hdv
      subst hdv
      refine s_when (b := true) (et_is (et_test (ev_notNon (ev_var rfl))) rfl) (fun _ H1 e1 => ?_) fun z => by cases z
      have D1 := hD.mono e1
      refine ⟨.ref a, rfl, a, l, c, N, 9, rfl, D1, by omega, by omega, by omega, fun m H2 m0 m9 D2 x2 => ?_⟩
      obtain ⟨more, rfl⟩ := Int.eq_ofNat_of_zero_le m0
      have B2 := (hB.mono e1).exD D1 x2
      obtain ⟨p, rfl, hp⟩ := B2.told
      have due0 := due_ge s0 f0 late day lag
      have hag := again_is (f := f) s0 late day lag more
      refine q_asg (v := .int (dueI f st late day lag + st * (more : Int))) (ev_add (ev_var rfl) (ev_mul (ev_op (ev_var rfl) ev_c (rv_ixT (st_of hp) (at_of (j := 1) rfl rfl))) (ev_var rfl) (Or.inl ⟨by omega, by omega⟩))) fun H3 e3 => ?_
      have B3 := B2.mono e3
      have ag0 : 0 ≤ dueI f st late day lag + st * (more : Int) := by
        have := Int.mul_nonneg (Int.le_of_lt s0) (Int.ofNat_nonneg more)
        omega
      have agn : NoI (capV (dueI f st late day lag + st * (more : Int))) := capV_noI ag0
      refine s_same (d := dV (capV (dueI f st late day lag + st * (more : Int)))) (ep_v (ev_is (ev_set (rows := calOf R) (zs := nms S) (day := dueI f st late day lag) (late := false) (lag := more) (ea_cons (ev_var rfl) (ea_cons (ev_var rfl) (ea_cons (ev_var rfl) (ea_cons ev_c (ea_cons (ev_var rfl) ea_nil))))) ⟨cal, so, rfl, B3.cal, goodCal_of hG, B3.so, goodCur_sub hG hS hne, within_of hS, due0, hd⟩) ?_) agn)
        (ep_v (ev_if (b := decide (dueI f st late day lag + st * (more : Int) ≤ 400)) (et_test (ev_leV (ev_var rfl) ev_c)) (fun hb => ev_is (ev_var rfl) ?_) fun hb => ev_is ev_c ?_) agn) agn.sm.sm fun H4 e4 => ?_
      · rw [cm_told hG hS hne (t := some (f, st)) ⟨hI, f0, f4, s0, s2⟩, show dd (some (f, st)) = days f st from rfl, due_is s0, hag]
      · exact (if_pos (of_decide_eq_true hb)).symm
      · exact (if_neg (of_decide_eq_false hb)).symm
      · exact k _ _ H4 (D2.mono (e3.trans e4)) (((ExD.of e1).trans x2).trans (ExD.of (e3.trans e4)))
    · exact skip (hdv.trans (if_neg hd))
theorem lap2_ok (hG : GoodR R) (hS : S.Sublist R) (hne : S ≠ []) (hT : ToldIs S t) (hD : Dr a l c N H) (hN : N + 10 < 1000000) (hB : Bk a l rw cal so dy tv R S t H) (hdv : dv = optV (after (dd t) late day)[lag]?) (hbv : bv = optV (back (upTo (dd t) day) lag)) (nbv : NoI bv) (d0 : 0 ≤ day) (d4 : day ≤ 400) (l6 : lag ≤ 60)
    (k : ∀ (y19 y20 : Option V) H', Dr a l c (N + 1) H' → ExD a l H H' → D.nx (sg s a y2 y3 rw y5 cal so tv dy [y10, some (.int day), some (.bl late), some (.int lag), some dv, some bv, y16, y17, y18, y19, y20, y21, y22, y23]) H') :
    tLap2 K D (sg s a y2 y3 rw y5 cal so tv dy [y10, some (.int day), some (.bl late), some (.int lag), some dv, some bv, y16, y17, y18, y19, y20, y21, y22, y23]) H := by
  have ndv : NoI dv := by
    rw [hdv]
    exact told_noI hT late day lag
  have hcm := cm_told hG hS hne hT
  have cur := goodCur_sub hG hS hne
  have args : ∀ H1, Ex H H1 → ArgS [.ref cal, .ref so, .int day, .bl late, .int (lag : Int)] H1 (calOf R) (nms S) day late lag := fun H1 e1 =>
    ⟨cal, so, rfl, hB.cal.mono e1, goodCal_of hG, e1 _ _ hB.so, cur, within_of hS, d0, d4⟩
  refine q_same (d := .list [dV dv, dV dv]) (ep_two (ep_v (ev_is (ev_set (ea_cons (ev_var rfl) (ea_cons (ev_var rfl) (ea_cons (ev_var rfl) (ea_cons (ev_var rfl) (ea_cons (ev_var rfl) ea_nil))))) (args H (Ex.refl H))) (by rw [hcm, hdv])) ndv)
    (ep_v (ev_is (ev_setK (ea_cons (ev_var rfl) (ea_cons (ev_var rfl) (ea_cons (ev_var rfl) (ea_cons (ev_var rfl) (ea_cons (ev_var rfl) ea_nil))))) (args H (Ex.refl H))) (by rw [hcm, hdv])) ndv))
    (ep_two (ep_v (ev_var rfl) ndv) (ep_v (ev_var rfl) ndv)) (sm_two ndv.sm ndv.sm) fun H1 e1 => ?_
  refine q_same (d := dV bv) (ep_v (ev_is (ev_lat (rows := calOf R) (zs := nms S) (day := day) (lag := lag) (ea_cons (ev_var rfl) (ea_cons (ev_var rfl) (ea_cons (ev_var rfl) (ea_cons (ev_var rfl) ea_nil)))) ⟨cal, so, rfl, hB.cal.mono e1, goodCal_of hG, e1 _ _ hB.so, cur, within_of hS, d0, d4⟩) (by rw [hcm, hbv])) nbv)
    (ep_v (ev_var rfl) nbv) nbv.sm.sm fun H2 e2 => ?_
  exact lap3_ok hG hS hne hT (hD.mono (e1.trans e2)) hN (hB.mono (e1.trans e2)) hdv d0 d4 l6 fun y19 y20 H' D' x' => k y19 y20 H' D' ((ExD.of (e1.trans e2)).trans x')
theorem lap_ok (hG : GoodR R) (hS : S.Sublist R) (hne : S ≠ []) (hT : ToldIs S t) (hD : Dr a l c N H) (hN : N + 20 < 1000000) (hB : Bk a l rw cal so dy tv R S t H) {y11 y12 y13 y14 y15 : Option V}
    (k : ∀ (y11 y12 y13 y14 y15 y16 y17 y18 y19 y20 : Option V) H', Dr a l c (N + 5) H' → ExD a l H H' → D.nx (sg s a y2 y3 rw y5 cal so tv dy [y10, y11, y12, y13, y14, y15, y16, y17, y18, y19, y20, y21, y22, y23]) H') :
    tLap K D (sg s a y2 y3 rw y5 cal so tv dy [y10, y11, y12, y13, y14, y15, y16, y17, y18, y19, y20, y21, y22, y23]) H := by
  -- day, late, lag
  refine ⟨.ref a, rfl, a, l, c, N, 401, rfl, hD, by omega, by omega, by omega, fun day H1 d0 d4 D1 x1 => ?_⟩
  refine ⟨.ref a, rfl, a, l, c, N + 1, 2, rfl, D1, by omega, by omega, by omega, fun lt H2 lt0 lt2 D2 x2 => ⟨rfl, ?_⟩⟩
  refine ⟨.ref a, rfl, .ref a, rfl, a, l, c, N + 2, 60, rfl, D2, by omega, by omega, by omega, fun w H3 w0 w6 D3 x3 => ⟨(by show 3 ≤ sizeLine; decide), fun p hp => ?_⟩⟩
  have nep := D3.newNe hp
  have xp : Ex H3 (upd H3 p (.lst [.int 0, .int 1, .int w])) := Ex.new hp
  refine ⟨a, l, c, N + 3, p, [.int 0, .int 1, .int w], rfl, D3.mono xp, by omega, ⟨.inl upd_same, nep.1, nep.2⟩, (by show 0 < 3; decide), (by show 3 < 100000; decide), fun x H4 hx D4 x4 => ?_⟩
  obtain ⟨lag, rfl, l6⟩ : ∃ lag : Nat, x = .int (lag : Int) ∧ lag ≤ 60 := by
    rcases List.mem_cons.mp hx with e | hx
    · exact ⟨0, e, by omega⟩
    · rcases List.mem_cons.mp hx with e | hx
      · exact ⟨1, e, by omega⟩
      · rcases List.mem_cons.mp hx with e | hx
        · obtain ⟨n, rfl⟩ := Int.eq_ofNat_of_zero_le w0
          exact ⟨n, e, by omega⟩
        · cases hx
  refine ⟨_, _, _, rfl, ?_⟩
  have x14 := ((x1.trans x2).trans (x3.trans (ExD.of xp))).trans x4
  have B4 : Bk a l rw cal so dy tv R S t H4 := ((((hB.exD hD x1).exD D1 x2).exD D2 x3).mono xp).exD (D3.mono xp) x4
  -- due, back = None, None
  refine ⟨(by show 2 ≤ sizeLine; decide), fun q hq => ?_⟩
  refine ⟨q, [.non, .non], rfl, st_of upd_same, rfl, .non, [.non], rfl, .non, [], rfl, rfl, ?_⟩
  have xq : Ex H4 (upd H4 q (.tup [.non, .non])) := Ex.new hq
  generalize upd H4 q (.tup [.non, .non]) = H5 at xq
  have B5 := B4.mono xq
  have D5 := D4.mono xq
  have x15 := x14.trans (ExD.of xq)
  generalize decide (V.int lt = V.int 0) = late
  have fin : ∀ (dv bv : V) (y16 y17 y18 : Option V) H6, Ex H5 H6 → dv = optV (after (dd t) late day)[lag]? → bv = optV (back (upTo (dd t) day) lag) → NoI bv →
      tLap2 K D (sg s a y2 y3 rw y5 cal so tv dy [y10, some (.int day), some (.bl late), some (.int lag), some dv, some bv, y16, y17, y18, y19, y20, y21, y22, y23]) H6 := fun dv bv y16 y17 y18 H6 e6 hd hb nb =>
    lap2_ok hG hS hne hT (D5.mono e6) (by omega) (B5.mono e6) hd hb nb d0 (by omega) l6 fun z19 z20 H7 D7 x7 => k _ _ _ _ _ _ _ _ _ _ H7 D7 ((x15.trans (ExD.of e6)).trans x7)
  cases t with
  | none =>
    obtain rfl : tv = .non := B5.told
    exact q_when (b := false) (σ := sg s a y2 y3 rw y5 cal so .non dy [y10, some (.int day), some (.bl late), some (.int lag), some .non, some .non, y16, y17, y18, y19, y20, y21, y22, y23]) (et_is (et_test (ev_notNon (ev_var rfl))) rfl) (fun z => by cases z) fun _ H6 e6 => fin .non .non y16 y17 y18 H6 e6 rfl rfl (Or.inl rfl)
  | some pr =>
    obtain ⟨f, st⟩ := pr
    have hT' := hT
    obtain ⟨hI, f0, f4, s0, s2⟩ := hT
    obtain ⟨p, rfl, hp⟩ := B5.told
    have t0 : ∀ {σ : L2.St} {H6 : Hp}, Ex H5 H6 → σ[8]? = some (some (.ref p)) → Ev (tOp (rIxT K) (tVar 8) (tC (.int 0))) σ H6 (.int f) := fun e h => ev_op (ev_var h) ev_c (rv_ixT (st_of (e _ _ hp)) (at_of (j := 0) rfl rfl))
    have t1 : ∀ {σ : L2.St} {H6 : Hp}, Ex H5 H6 → σ[8]? = some (some (.ref p)) → Ev (tOp (rIxT K) (tVar 8) (tC (.int 1))) σ H6 (.int st) := fun e h => ev_op (ev_var h) ev_c (rv_ixT (st_of (e _ _ hp)) (at_of (j := 1) rfl rfl))
    refine q_when (b := true) (σ := sg s a y2 y3 rw y5 cal so (.ref p) dy [y10, some (.int day), some (.bl late), some (.int lag), some .non, some .non, y16, y17, y18, y19, y20, y21, y22, y23]) (et_is (et_test (ev_notNon (ev_var rfl))) rfl) (fun _ H6 e6 => ?_) fun z => by cases z
    -- start
    refine q_asg (v := .int (startOf late day)) (ev_if (b := late) (et_B (ev_var rfl)) (fun hb => ev_is (ev_add (ev_var rfl) ev_c) (by rw [hb]; rfl)) fun hb => ev_is (ev_var rfl) (by rw [hb]; rfl)) fun H7 e7 => ?_
    have e57 := e6.trans e7
    -- count
    have hc : (if (startOf late day - f + st - 1) / st > 0 then (startOf late day - f + st - 1) / st else 0) = cnt (startOf late day) f st := by
      unfold K56.cnt
      split <;> omega
    refine q_asg (v := .int (cnt (startOf late day) f st)) (ev_is (ev_max2 ev_c (ev_fdiv (ev_sub (ev_add (ev_sub (ev_var rfl) (t0 e57 rfl)) (t1 e57 rfl)) ev_c) (t1 e57 rfl) ⟨s0, by omega⟩)) (by rw [hc])) fun H8 e8 => ?_
    have e58 := e57.trans e8
    obtain ⟨due9, cnt3⟩ := due_le s0 s2 f0 f4 late d0 (show day ≤ 400 by omega) l6
    -- due
    refine q_asg (v := .int (dueI f st late day lag)) (ev_add (t0 e58 rfl) (ev_mul (t1 e58 rfl) (ev_add (ev_var rfl) (ev_var rfl)) (Or.inl ⟨by omega, by omega⟩))) fun H9 e9 => ?_
    have e59 := e58.trans e9
    refine q_asg (v := capV (dueI f st late day lag)) (ev_if (b := decide (dueI f st late day lag ≤ 400)) (et_test (ev_leV (ev_var rfl) ev_c)) (fun hb => ev_is (ev_var rfl) (if_pos (of_decide_eq_true hb)).symm) fun hb => ev_is ev_c (if_neg (of_decide_eq_false hb)).symm) fun H10 e10 => ?_
    have e510 := e59.trans e10
    -- index
    refine q_asg (v := .int (backI f st day lag)) (ev_sub (ev_fdiv (ev_sub (ev_var rfl) (t0 e510 rfl)) (t1 e510 rfl) ⟨s0, by omega⟩) (ev_var rfl)) fun H11 e11 => ?_
    have e511 := e510.trans e11
    have hdv : capV (dueI f st late day lag) = optV (after (dd (some (f, st))) late day)[lag]? := (due_is s0 late day lag).symm
    have hbv : backV f st day lag = optV (back (upTo (dd (some (f, st))) day) lag) := (back_is s0 (by omega) lag).symm
    have nbv : NoI (backV f st day lag) := backV_noI f0 s0 s2 (by omega)
    refine s_when (b := decide (f ≤ day) && decide (0 ≤ backI f st day lag)) (et_and (et_test (ev_geV (ev_var rfl) (t0 e511 rfl))) fun _ => et_test (ev_geV (ev_var rfl) ev_c)) (fun hb H12 e12 => ?_) fun hb H12 e12 => ?_
    · rw [Bool.and_eq_true, decide_eq_true_eq, decide_eq_true_eq] at hb
      have e512 := e511.trans e12
      have eb : backV f st day lag = .int (f + st * backI f st day lag) := if_pos hb
      refine s_asg (v := backV f st day lag) (ev_is (ev_add (t0 e512 rfl) (ev_mul (t1 e512 rfl) (ev_var rfl) (Or.inl ⟨by omega, by omega⟩))) eb.symm) fun H13 e13 => ?_
      exact fin _ _ _ _ _ H13 (e512.trans e13) hdv hbv nbv
    · have eb : backV f st day lag = .non := if_neg fun z => by
        rw [decide_eq_true z.1, decide_eq_true z.2] at hb
        cases hb
      refine fin _ .non _ _ _ H12 (e511.trans e12) hdv (by rw [← hbv, eb]) (Or.inl rfl)
end
end N56
namespace N56
open PySem PySem.Spec PyProof.Rows L2 Evl
open K56 (days num)
def rIsO (C : Addr) : List V → Hp → VK → Prop := fun xs H Q => ∃ a, xs = [.ref a, .ref C] ∧ H a = some (IsO (Value.ref C) a) ∧ Q (.bl true) H
def tEnd3 (C PT : Addr) : TS := (tIfS (tNot (tB (tCB (rIsO C) (tCons (LamX.tLam [(PT, lamQ)] (TTk C) fun E2 => tCall (spCloX C) [] E2 (tCons (tVar 23) (tCons (tVar 5) (tCons (tVar 22) tNil)))) (tCons (tC (.ref C)) tNil))))) (tRet (tC (.bl false))) tNext)
def tEnd2 (K : PySem.W.Frag) (C PT : Addr) : TS := (tSeq (tIfS (tAnd (tTest (tOp (rIn K false) (tVar 22) (tVar 9))) (tTest (tOp rNe (tOp (rIxT K) (tVar 9) (tUn (rU fun i => .int (-i)) (tC (.int 1)))) (tVar 22)))) (tIfS (tNot (tB (tCall (spSame K) [] E0 (tCons (tCall spSet [] E0 (tCons (tVar 23) (tCons (tVar 7) (tCons (tVar 22) (tCons (tC (.bl false)) (tCons (tC (.int 0)) tNil)))))) (tCons (tOp (rI0 fun i j => .int (i + j)) (tVar 22) (tOp (rIxT K) (tVar 8) (tC (.int 1)))) tNil))))) (tRet (tC (.bl false))) tNext) tNext) (tEnd3 C PT))
def tEnd (K : PySem.W.Frag) (C PT : Addr) : TS := (tSeq (tAsg (tCall spPick [] E0 (tCons (tVar 1) (tCons (tVar 7) tNil))) (gName 5)) (tSeq (tAsg (tLstRg3 (tCons (tOp (rIxT K) (tDGet (tVar 4) (tVar 5)) (tC (.int 0))) (tCons (tC (.int 401)) (tCons (tOp (rIxT K) (tDGet (tVar 4) (tVar 5)) (tC (.int 1))) tNil)))) (gName 21)) (tSeq (tAsg (tCall spPick [] E0 (tCons (tVar 1) (tCons (tVar 21) tNil))) (gName 22)) (tSeq (tAsg (tCall spClo [] E0 (tCons (tVar 6) (tCons (tVar 5) (tCons (tVar 22) tNil)))) (gName 23)) (tSeq (tIfS (tNot (tB (tCall (spSame K) [] E0 (tCons (tLst (tCons (tCall spCom [] E0 (tCons (tVar 23) (tCons (tTup (tCons (tVar 5) tNil)) tNil))) (tCons (tCall spCom [] E0 (tCons (tVar 23) (tCons (tVar 7) tNil))) tNil))) (tCons (tLst (tCons (tCB (rTupS K) (tCons (tLc (iList K (tVar 21)) (gName 11) (tTest (tOp rNe (tVar 11) (tVar 22))) (tVar 11) [11]) tNil)) (tCons (tCB (rTupS K) (tCons (tLc (iTup K (tVar 9)) (gName 11) (tTest (tOp rNe (tVar 11) (tVar 22))) (tVar 11) [11]) tNil)) tNil))) tNil))))) (tRet (tC (.bl false))) tNext) (tEnd2 K C PT))))))

theorem rgC_days {f s : Int} (f0 : 0 ≤ f) (f4 : f ≤ 400) (s0 : 0 < s) (s2 : s ≤ 20736) : RgC f 401 s (num 400 f s) := by
  have q0 : 0 ≤ (401 - f - 1) / s := Int.ediv_nonneg (by omega) (by omega)
  have q1 : (401 - f - 1) / s ≤ 401 - f - 1 := Int.ediv_le_self _ (by omega)
  have hr : Builtin.Range.rangeSize f 401 s = (401 - f - 1) / s + 1 := by
    unfold Builtin.Range.rangeSize
    rw [if_pos (show s > 0 from s0), if_pos (by omega)]
  refine ⟨by omega, by omega, ?_, ?_⟩
  · unfold Builtin.Range.small
    rw [hr]
    generalize (401 - f - 1) / s = q at q0 q1
    simp only [Builtin.Range.rangeFitsLong, Bool.and_eq_true, Bool.or_eq_true, decide_eq_true_eq, beq_iff_eq, show s > 0 from s0, if_true]
    omega
  · rw [hr]
    unfold num
    rw [if_pos f4, show (401 : Int) - f - 1 = 400 - f by omega]
    rw [show (401 : Int) - f - 1 = 400 - f by omega] at q0
    omega
theorem num_le {f s : Int} (f0 : 0 ≤ f) (s0 : 0 < s) : num 400 f s ≤ 1000 := by
  have := upto_len_le f0 s0
  rw [K56.upto_len] at this
  omega
/-! ### all but the tables stays -/
section
variable {a l c : Addr} {N : Nat} {H H' : Hp}
theorem ext_t (e : LamX.ExtN H H') {b : Addr} {xs : List V} (h : H b = some (.tup xs)) : H' b = some (.tup xs) := e b _ h fun ps z => by cases z
theorem Dr.extN (d : Dr a l c N H) (e : LamX.ExtN H H') : Dr a l c N H' := by
  obtain ⟨kvs, lg, cs, rest, turn, h1, h2, h3, h4, h5, h6, h7, h8, h9⟩ := d.ex
  exact ⟨kvs, lg, cs, rest, turn, e _ _ h1 (fun ps z => by cases z), h2, h3, h4, h5, h6, e _ _ h7 (fun ps z => by cases z), e _ _ h8 (fun ps z => by cases z), h9⟩
theorem CalH.extN {cal : Addr} {rows : List (Str × List Int)} (h : CalH H cal rows) (e : LamX.ExtN H H') : CalH H' cal rows := by
  obtain ⟨b, o, ps, qs, h1, h2, h3, h4, h5, h6⟩ := h.ex
  exact ⟨b, o, ps, qs, ext_t e h1, e b _ h2 (fun ps z => by cases z), h3, h4, h5, fun i p q r x y z => ⟨ext_t e (h6 i p q r x y z).1, ext_t e (h6 i p q r x y z).2⟩⟩
end
theorem at_last {xs : List V} {v : V} (h : xs.getLast? = some v) : atI xs (-1) = some v := by
  have hl : 0 < xs.length := by
    cases xs with
    | nil => cases h
    | cons _ _ => simp
  unfold atI ixN
  rw [if_neg (by omega), if_pos (by omega)]
  show xs[((-1 : Int) + (xs.length : Int)).toNat]? = some v
  rw [show ((-1 : Int) + (xs.length : Int)).toNat = xs.length - 1 by omega, ← List.getLast?_eq_getElem?]
  exact h
theorem ne_ints {d g : Int} : (!decide (V.int d = V.int g)) = decide (d ≠ g) := by
  by_cases h : d = g
  · rw [h, decide_eq_true rfl, decide_eq_false (fun z => z rfl)]
    rfl
  · rw [decide_eq_false (fun z => h (V.int.inj z)), decide_eq_true h]
    rfl
section
variable {K : PySem.W.Frag} {D : Ends} {s a l c rw cal so dy PT C le : Addr} {tv : V} {y2 y3 y5 y10 y11 y12 y13 y14 y15 y16 y17 y18 y19 y20 y21 y22 y23 : Option V} {R S : List Row} {t : Told} {N : Nat} {H : Hp} {σ : L2.St}
/-- the days of xs but g, as a tuple -/
theorem ew_butL {p : Addr} {ns : List Int} {g : Int} {j i : Nat} (hp : H p = some (.lst (ns.map V.int))) (hl : ns.length ≤ 1000) (hj : σ[j]? = some (some (.ref p))) (hw : ∀ x, wipe ((wipe σ [i]).set i (some x)) [i] = wipe σ [i]) (hr : ∀ x, ((wipe σ [i]).set i (some x))[i]? = some (some x)) (h22 : ∀ x, ((wipe σ [i]).set i (some x))[22]? = some (some (.int g))) :
    EvW (tCB (rTupS K) (tCons (tLc (iList K (tVar j)) (gName i) (tTest (tOp rNe (tVar i) (tVar 22))) (tVar i) [i]) tNil)) σ H ((ns.filter fun o => decide (o ≠ g)).map V.int) := by
  have key := el_lcL (K := K) (te := tVar i) (t := tTest (tOp rNe (tVar i) (tVar 22))) (σ := σ) (H := H) (j := i) (vs := [i]) (tl := tVar j) (fun k => decide (ns.getD k 0 ≠ g)) (fun k => .int (ns.getD k 0)) (ev_var hj) (sq_of hp) (by rw [List.length_map]; omega) hw
    (fun k x H5 e5 hx => by
      obtain ⟨n, hn, rfl⟩ := map_at hx
      rw [show ns.getD k 0 = n by rw [List.getD_eq_getElem?_getD, hn]; rfl, ← ne_ints]
      exact et_test (ev_op (ev_var (hr _)) (ev_var (h22 _)) (rv_ne rfl)))
    (fun k x H5 e5 hx _ => by
      obtain ⟨n, hn, rfl⟩ := map_at hx
      rw [show ns.getD k 0 = n by rw [List.getD_eq_getElem?_getD, hn]; rfl]
      exact ev_var (hr _))
  rw [List.length_map, given_filter (0 : Int) (fun n => decide (n ≠ g)) V.int] at key
  exact ew_of (eu_tupOf key)
theorem ew_butT {p : Addr} {ns : List Int} {g : Int} {j i : Nat} (hp : H p = some (.tup (ns.map V.int))) (hl : ns.length ≤ 1000) (hj : σ[j]? = some (some (.ref p))) (hw : ∀ x, wipe ((wipe σ [i]).set i (some x)) [i] = wipe σ [i]) (hr : ∀ x, ((wipe σ [i]).set i (some x))[i]? = some (some x)) (h22 : ∀ x, ((wipe σ [i]).set i (some x))[22]? = some (some (.int g))) :
    EvW (tCB (rTupS K) (tCons (tLc (iTup K (tVar j)) (gName i) (tTest (tOp rNe (tVar i) (tVar 22))) (tVar i) [i]) tNil)) σ H ((ns.filter fun o => decide (o ≠ g)).map V.int) := by
  have key := el_lcT (K := K) (te := tVar i) (t := tTest (tOp rNe (tVar i) (tVar 22))) (σ := σ) (H := H) (j := i) (vs := [i]) (tl := tVar j) (fun k => decide (ns.getD k 0 ≠ g)) (fun k => .int (ns.getD k 0)) (eq_ev (ev_var hj) (st_of hp)) (by rw [List.length_map]; omega) hw
    (fun k x H5 e5 hx => by
      obtain ⟨n, hn, rfl⟩ := map_at hx
      rw [show ns.getD k 0 = n by rw [List.getD_eq_getElem?_getD, hn]; rfl, ← ne_ints]
      exact et_test (ev_op (ev_var (hr _)) (ev_var (h22 _)) (rv_ne rfl)))
    (fun k x H5 e5 hx _ => by
      obtain ⟨n, hn, rfl⟩ := map_at hx
      rw [show ns.getD k 0 = n by rw [List.getD_eq_getElem?_getD, hn]; rfl]
      exact ev_var (hr _))
  rw [List.length_map, given_filter (0 : Int) (fun n => decide (n ≠ g)) V.int] at key
  exact ew_of (eu_tupOf key)
/-- the exception -/
theorem end3_ok {rows : List (Str × List Int)} {z : Str} {g : Int} (hD : Dr a l c N H) (hT : TbL PT H) (hc : CalH H le rows) (gc : GoodCal rows) {r : Str × List Int} (hr : r ∈ rows) (er : r.1 = z) (g0 : 0 ≤ g) (g4 : g ≤ 400) (hg : g ∉ dz rows z)
    (k : ∀ H', Dr a l c N H' → TbL PT H' → D.nx (sg s a y2 y3 rw (some (.str z)) cal so tv dy [y10, y11, y12, y13, y14, y15, y16, y17, y18, y19, y20, y21, some (.int g), some (.ref le)]) H') :
    tEnd3 C PT D (sg s a y2 y3 rw (some (.str z)) cal so tv dy [y10, y11, y12, y13, y14, y15, y16, y17, y18, y19, y20, y21, some (.int g), some (.ref le)]) H := by
  refine ⟨hT, fun H1 eN T1 Qn => ?_⟩
  refine ⟨.ref le, rfl, .str z, rfl, .int g, rfl, rows, z, g, ⟨le, r, rfl, hc.extN eN, gc, hr, er, g0, g4⟩, hg, fun H2 e2 => ⟨rfl, rfl, fun a' ha' => ?_⟩⟩
  refine ⟨a', rfl, upd_same, true, rfl, ?_⟩
  have x : Ex H1 (upd H2 a' (IsO (.ref C) a')) := e2.trans (Ex.new ha')
  exact k _ ((hD.extN eN).mono x) (tb_ex T1 x)
end
end N56
namespace N56
open PySem PySem.Spec PyProof.Rows L2 Evl
open K56 (days num)
def lastNe (l : List Int) (g : Int) : Bool := match l.getLast? with
  | some d => decide (d ≠ g)
  | none => false
section
variable {K : PySem.W.Frag} {σ : L2.St} {H : Hp} {ta te : TA}
theorem el_rg3 {f s : Int} (h : EvA ta σ H [.int f, .int 401, .int s]) (f0 : 0 ≤ f) (f4 : f ≤ 400) (s0 : 0 < s) (s2 : s ≤ 20736) : EvL (tLstRg3 ta) σ H ((days f s).map V.int) := fun H1 e Q q =>
  h H1 e _ fun H2 e2 => ⟨f, 401, s, num 400 f s, rfl, rgC_days f0 f4 s0 s2, num_le f0 s0, fun p hp => q p _ (fresh_back e2 hp) (e2.trans (Ex.new hp)) upd_same⟩
theorem eu_rg3 {f s : Int} (h : EvA ta σ H [.int f, .int 401, .int s]) (f0 : 0 ≤ f) (f4 : f ≤ 400) (s0 : 0 < s) (s2 : s ≤ 20736) : EvU (tTupRg3 ta) σ H ((days f s).map V.int) := fun H1 e Q q =>
  h H1 e _ fun H2 e2 => ⟨f, 401, s, num 400 f s, rfl, rgC_days f0 f4 s0 s2, num_le f0 s0, fun p hp => q p _ (fresh_back e2 hp) (e2.trans (Ex.new hp)) upd_same⟩
/-- the arguments of range(rows[name][0], 401, rows[name][1]) -/
theorem ea_row {rw : Addr} {R : List Row} {r : Row} (hR : RowsH H rw R) (hr : r ∈ R) {i j : Nat} (h4 : σ[i]? = some (some (.ref rw))) (h5 : σ[j]? = some (some (.str r.1))) :
    EvA (tCons (tOp (rIxT K) (tDGet (tVar i) (tVar j)) (tC (.int 0))) (tCons (tC (.int 401)) (tCons (tOp (rIxT K) (tDGet (tVar i) (tVar j)) (tC (.int 1))) tNil))) σ H [.int r.2.1, .int 401, .int r.2.2] := by
  obtain ⟨kvs, hk, hv⟩ := hR
  obtain ⟨p, hp, ht⟩ := hv r hr
  have g : Ev (tDGet (tVar i) (tVar j)) σ H (.ref p) := ev_dget (k := Sum.inr r.1) (ev_var h4) (ev_var (v := kV (Sum.inr r.1)) h5) hk hp
  exact ea_cons (ev_op g ev_c (rv_ixT (st_of ht) (at_of (j := 0) rfl rfl))) (ea_cons ev_c (ea_cons (ev_op g ev_c (rv_ixT (st_of ht) (at_of (j := 1) rfl rfl))) ea_nil))
end
section
variable {K : PySem.W.Frag} {D : Ends} {s a l c rw cal so dy PT C le : Addr} {tv : V} {y2 y3 y5 y10 y11 y12 y13 y14 y15 y16 y17 y18 y19 y20 y21 y22 y23 : Option V} {R S : List Row} {t : Told} {N : Nat} {H : Hp} {σ : L2.St}
theorem end2_ok (hG : GoodR R) (hS : S.Sublist R) (hT : ToldIs S t) (hD : Dr a l c N H) (hTb : TbL PT H) (hB : Bk a l rw cal so dy tv R S t H) {r : Row} (hr : r ∈ S) {g : Int} (hg : g ∈ days r.2.1 r.2.2) (hc : CalH H le (minus (calOf R) r.1 g))
    (k : ∀ H', Dr a l c N H' → TbL PT H' → D.nx (sg s a y2 y3 rw (some (.str r.1)) cal so tv dy [y10, y11, y12, y13, y14, y15, y16, y17, y18, y19, y20, y21, some (.int g), some (.ref le)]) H') :
    tEnd2 K C PT D (sg s a y2 y3 rw (some (.str r.1)) cal so tv dy [y10, y11, y12, y13, y14, y15, y16, y17, y18, y19, y20, y21, some (.int g), some (.ref le)]) H := by
  have hne : S ≠ [] := List.ne_nil_of_mem hr
  have hrR := hS.subset hr
  obtain ⟨gd, _, _⟩ := days_good (hG.sm r hrR)
  obtain ⟨g0, g4⟩ := gd.rng g hg
  have fin : ∀ H1, Ex H H1 → tEnd3 C PT D (sg s a y2 y3 rw (some (.str r.1)) cal so tv dy [y10, y11, y12, y13, y14, y15, y16, y17, y18, y19, y20, y21, some (.int g), some (.ref le)]) H1 := fun H1 e1 =>
    end3_ok (hD.mono e1) (tb_ex hTb e1) (hc.mono e1) (goodCal_minus hG r.1 g) (r := minusR r.1 g (r.1, days r.2.1 r.2.2)) (List.mem_map.mpr ⟨_, List.mem_map.mpr ⟨r, hrR, rfl⟩, rfl⟩) rfl g0 g4
      (by
        rw [dz_minus hG hrR]
        intro z
        have z2 := (List.mem_filter.mp z).2
        rw [decide_eq_false (fun z => z rfl), decide_eq_false (fun z => z rfl)] at z2
        cases z2) k
  refine q_when (b := decide (g ∈ dd t) && lastNe (dd t) g) (et_and (et_test (ev_is (ev_op (ev_var rfl) (ev_var rfl) (rv_isT (x := .int g) (st_of hB.dy) rfl (by simp [flatV]))) (by rw [inV_ints]))) fun hin => ?_) (fun hb H1 e1 => ?_) fun _ H1 e1 => fin H1 e1
  · have hm := of_decide_eq_true hin
    have hnil : dd t ≠ [] := List.ne_nil_of_mem hm
    have hlast : (dd t).getLast? = some ((dd t).getLast hnil) := List.getLast?_eq_some_getLast hnil
    have hb : lastNe (dd t) g = decide ((dd t).getLast hnil ≠ g) := by
      unfold lastNe
      rw [hlast]
    rw [hb, ← ne_ints]
    exact et_test (ev_op (ev_op (ev_var rfl) (ev_un ev_c ru_neg) (rv_ixT (st_of hB.dy) (at_last (by rw [List.getLast?_map, hlast]; rfl)))) (ev_var rfl) (rv_ne rfl))
  · rw [Bool.and_eq_true, decide_eq_true_eq] at hb
    obtain ⟨hm, hl⟩ := hb
    cases t with
    | none => cases hm
    | some pr =>
      obtain ⟨f, st⟩ := pr
      have hT' := hT
      obtain ⟨hI, f0, f4, s0, s2⟩ := hT
      obtain ⟨p, rfl, hp⟩ := hB.told
      have hgl : (days f st).getLast? ≠ some g := fun z => by
        unfold lastNe at hl
        rw [show dd (some (f, st)) = days f st from rfl, z] at hl
        exact of_decide_eq_true hl rfl
      have nv : NoI (.int (g + st)) := Or.inr ⟨_, rfl, by omega⟩
      refine s_same (d := dV (.int (g + st))) (ep_v (ev_is (ev_set (rows := minus (calOf R) r.1 g) (zs := nms S) (day := g) (late := false) (lag := 0) (ea_cons (ev_var rfl) (ea_cons (ev_var rfl) (ea_cons (ev_var rfl) (ea_cons ev_c (ea_cons ev_c ea_nil))))) ⟨le, so, rfl, hc.mono e1, goodCal_minus hG r.1 g, e1 _ _ hB.so, goodCur_sub hG hS hne, within_minus hS r.1 g, g0, g4⟩) ?_) nv)
        (ep_v (ev_add (ev_var rfl) (ev_op (ev_var rfl) ev_c (rv_ixT (st_of (e1 _ _ hp)) (at_of (j := 1) rfl rfl)))) nv) nv.sm.sm fun H2 e2 => fin H2 (e1.trans e2)
      rw [cm_minus hG hS hT' hr, show dd (some (f, st)) = days f st from rfl, next_is s0 hm hgl]
theorem end_ok (hG : GoodR R) (hS : S.Sublist R) (hne : S ≠ []) (hT : ToldIs S t) (hD : Dr a l c N H) (hN : N + 20 < 1000000) (hTb : TbL PT H) (hB : Bk a l rw cal so dy tv R S t H)
    (k : ∀ (y5 y21 y22 y23 : Option V) H', Dr a l c (N + 2) H' → TbL PT H' → D.nx (sg s a y2 y3 rw y5 cal so tv dy [y10, y11, y12, y13, y14, y15, y16, y17, y18, y19, y20, y21, y22, y23]) H') :
    tEnd K C PT D (sg s a y2 y3 rw y5 cal so tv dy [y10, y11, y12, y13, y14, y15, y16, y17, y18, y19, y20, y21, y22, y23]) H := by
  -- name
  have nso := hD.neT hB.so
  refine ⟨.ref a, rfl, .ref so, rfl, a, l, c, N, so, (nms S).map V.str, rfl, hD, by omega, ⟨.inr hB.so, nso.1, nso.2⟩, ?_, ?_, fun x H1 hx D1 x1 => ?_⟩
  · rw [List.length_map]
    exact List.length_pos_iff.mpr (nms_ne hne)
  · rw [List.length_map]
    have := (goodCur_sub hG hS hne).l4
    omega
  obtain ⟨z, hz, rfl⟩ := List.mem_map.mp hx
  obtain ⟨r, hr, rfl⟩ := List.mem_map.mp hz
  have hrR := hS.subset hr
  have sm := hG.sm r hrR
  obtain ⟨gd, _, _⟩ := days_good sm
  obtain ⟨f0, f30, s1, s12⟩ := sm
  have B1 := hB.exD hD x1
  have T1 := tb_exD hTb hD x1
  -- own
  refine q_asgL (el_rg3 (ea_row B1.rows hrR rfl rfl) f0 (by omega) (by omega) (by omega)) fun ow H2 ow0 e2 how => ?_
  have B2 := B1.mono e2
  have D2 := D1.mono e2
  have now_ := D1.newNe ow0
  -- gone
  refine ⟨.ref a, rfl, .ref ow, rfl, a, l, c, N + 1, ow, (days r.2.1 r.2.2).map V.int, rfl, D2, by omega, ⟨.inl how, now_.1, now_.2⟩, ?_, ?_, fun x H3 hx D3 x3 => ?_⟩
  · rw [List.length_map]
    exact gd.l1
  · rw [List.length_map]
    exact Nat.lt_of_le_of_lt gd.l1000 (by decide)
  obtain ⟨g, hg, rfl⟩ := List.mem_map.mp hx
  obtain ⟨g0, g4⟩ := gd.rng g hg
  have B3 := B2.exD D2 x3
  have T3 := tb_exD (tb_ex T1 e2) D2 x3
  have how3 : H3 ow = some (.lst ((days r.2.1 r.2.2).map V.int)) := x3 _ _ how now_.1 now_.2
  -- less
  refine ⟨.ref cal, rfl, .str r.1, rfl, .int g, rfl, calOf R, r.1, g, ⟨cal, (r.1, days r.2.1 r.2.2), rfl, B3.cal, goodCal_of hG, List.mem_map.mpr ⟨r, hrR, rfl⟩, rfl, g0, g4⟩, by rw [dz_cal hG hrR]; exact hg, fun le H4 e4 hle => ?_⟩
  have B4 := B3.mono e4
  have D4 := D3.mono e4
  have T4 := tb_ex T3 e4
  have cur := goodCur_sub hG hS hne
  have cur1 : GoodCur [r.1] := ⟨Nat.le_refl _, by show 1 ≤ 4; omega, fun z hz => by rw [List.mem_singleton.mp hz]; exact hG.cur.nm _ (List.mem_map.mpr ⟨r, hrR, rfl⟩), List.pairwise_singleton _ _⟩
  have w1 : Within (minus (calOf R) r.1 g) [r.1] := fun z hz => by
    rw [List.mem_singleton.mp hz]
    exact within_minus hS r.1 g _ (List.mem_map.mpr ⟨r, hr, rfl⟩)
  have small : ∀ (ns : List Int), (∀ d ∈ ns, 0 ≤ d ∧ d ≤ 400) → ∀ n ∈ ns.filter (fun o => decide (o ≠ g)), n.natAbs < 10 ^ 12 := fun ns h n hn => by
    have := h n (List.mem_filter.mp hn).1
    omega
  have l1 : ((days r.2.1 r.2.2).filter fun o => decide (o ≠ g)).length ≤ 1000 := Nat.le_trans (List.length_filter_le _ _) gd.l1000
  have l2 : ((dd t).filter fun o => decide (o ≠ g)).length ≤ 1000 := Nat.le_trans (List.length_filter_le _ _) (Nat.le_trans (dd_len hT) (by decide))
  dsimp only [gName]
  refine q_same (σ := sg s a y2 y3 rw (some (.str r.1)) cal so tv dy [y10, y11, y12, y13, y14, y15, y16, y17, y18, y19, y20, some (.ref ow), some (.int g), some (.ref le)]) (d := .list [.tuple (((days r.2.1 r.2.2).filter fun o => decide (o ≠ g)).map .int), .tuple (((dd t).filter fun o => decide (o ≠ g)).map .int)])
    (ep_two (ep_w ?_) (ep_w ?_))
    (ep_two (ep_w (ew_butL (i := 11) (j := 21) (g := g) (ns := days r.2.1 r.2.2) (e4 _ _ how3) gd.l1000 (by rfl) (fun _ => by rfl) (fun _ => by rfl) fun _ => by rfl)) (ep_w (ew_butT (i := 11) (j := 9) (g := g) (ns := dd t) B4.dy (Nat.le_trans (dd_len hT) (by decide)) (by rfl) (fun _ => by rfl) (fun _ => by rfl) fun _ => by rfl)))
    (sm_two (smI_tup (small _ gd.rng) l1) (smI_tup (small _ (dd_rng hT)) l2)) fun H5 e5 => ?_
  · have h := cm_minus_one hG hrR g
    rw [← h]
    intro H5 e5 Q q
    refine ⟨.ref le, rfl, .str r.1, rfl, (by show 1 ≤ sizeLine; decide), fun p hp => ?_⟩
    have xp : Ex H5 (upd H5 p (.tup [.str r.1])) := Ex.new hp
    exact ⟨le, p, minus (calOf R) r.1 g, [r.1], rfl, hle.mono (e5.trans xp), goodCal_minus hG r.1 g, upd_same, cur1, w1, fun v H' e' hv => by
      obtain ⟨p2, rfl, hp2⟩ := hv
      exact q p2 H' (xp.trans e') hp2⟩
  · rw [← cm_minus hG hS hT hr g]
    exact ew_com (ea_cons (ev_var rfl) (ea_cons (ev_var rfl) ea_nil)) hle (goodCal_minus hG r.1 g) B4.so cur (within_minus hS r.1 g)
  · exact end2_ok hG hS hT (D4.mono e5) (tb_ex T4 e5) (B4.mono e5) hr hg (hle.mono e5) fun H6 D6 T6 => k _ _ _ _ H6 D6 T6
end
end N56
namespace N56
open PySem PySem.Spec PyProof.Rows L2 Evl
open K56 (days num Is Never)
section
variable {K : PySem.W.Frag} {D : Ends} {te : TE} {tz : TS} {σ : L2.St} {H : Hp}
theorem q_asgK {i : Nat} (h : te σ H fun v H1 => tz D (σ.set i (some v)) H1) : tSeq (tAsg te (gName i)) tz D σ H := h
end
theorem yes_if {A B : Hp → Prop} {σ : L2.St} {H : Hp} (h : A H) : tYes σ H (fun b H3 => if b = true then A H3 else B H3) := by
  show (if true = true then A H else B H)
  rw [if_pos rfl]
  exact h
theorem mem_zip_at {α β : Type} {xs : List α} {ys : List β} {r : α × β} (h : r ∈ xs.zip ys) : ∃ j : Nat, xs[j]? = some r.1 ∧ ys[j]? = some r.2 := by
  obtain ⟨j, hj⟩ := List.mem_iff_getElem?.mp h
  rw [List.getElem?_zip_eq_some] at hj
  exact ⟨j, hj⟩
theorem snoc_at {α : Type} {xs : List α} {y z : α} {i j : Nat} (hl : xs.length = i) (h : (xs ++ [y])[j]? = some z) : (j < i ∧ xs[j]? = some z) ∨ (j = i ∧ z = y) := by
  by_cases hj : j < i
  · rw [List.getElem?_append_left (by omega)] at h
    exact Or.inl ⟨hj, h⟩
  · have hj2 : j = i := by
      have := (List.getElem?_eq_some_iff.mp h).1
      rw [List.length_append, List.length_singleton] at this
      omega
    subst hj2
    rw [List.getElem?_append_right (by omega), hl, Nat.sub_self] at h
    cases h
    exact Or.inr ⟨rfl, rfl⟩
section
variable {K : PySem.W.Frag} {s a l c nm rw so : Addr} {y2 y4 y5 y6 y7 : Option V} {z : List (Option V)} {N : Nat} {H : Hp} {Q : VK} {R S : List Row}
/-- rows = dict([(name, (.., 1 + ..)) for name in names]) -/
theorem rows_ok {zs : List Str} (hD : Dr a l c N H) (hN : N + 20 < 1000000) (hnm : H nm = some (.lst (zs.map V.str))) (nna : nm ≠ a) (nnl : nm ≠ l) (hz : zs.length ≤ 4) (hnd : zs.Nodup)
    (k : ∀ rw R H', nms R = zs → (∀ r ∈ R, SmallR r.2) → Dr a l c (N + 8) H' → ExD a l H H' → RowsH H' rw R → rw ≠ a → rw ≠ l → Q (.ref rw) H') :
    tCB (rDictL K) (tCons (tLc (iList K (tVar 3)) (gName 5) tYes (tTup (tCons (tVar 5) (tCons (tTup (tCons (tCall spTake [] E0 (tCons (tVar 1) (tCons (tC (.int 30)) tNil))) (tCons (tOp (rI0 fun i j => .int (i + j)) (tC (.int 1)) (tCall spTake [] E0 (tCons (tVar 1) (tCons (tC (.int 12)) tNil)))) tNil))) tNil))) [5]) tNil)
      (some (.ref s) :: some (.ref a) :: y2 :: some (.ref nm) :: y4 :: y5 :: z) H Q := by
  refine ⟨.ref nm, rfl, nm, rfl, ⟨_, sq_of hnm⟩, fun Dl hDl => ?_⟩
  have nD := hD.newNe hDl
  refine lc_list (K := K) (a := nm) (xs := zs.map V.str) (fun i H' => Dr a l c (N + 2 * i) H' ∧ ExD a l H H' ∧ ∃ (ps qs : List Addr) (fs : List (Int × Int)), ps.length = i ∧ qs.length = i ∧ fs.length = i ∧ H' Dl = some (.lst (ps.map V.ref)) ∧ (∀ x ∈ fs, SmallR x) ∧
    ∀ (j : Nat) p q z x, ps[j]? = some p → qs[j]? = some q → zs[j]? = some z → fs[j]? = some x → H' p = some (.tup [.str z, .ref q]) ∧ H' q = some (.tup [.int x.1, .int x.2])) ?_ ?_ ?_ ?_
  · exact ⟨hD.mono (Ex.new hDl), ExD.of (Ex.new hDl), [], [], [], rfl, rfl, rfl, upd_same, (fun x hx => by cases hx), (fun j p q z x h => by cases h)⟩
  · rintro i H' _ ⟨_, x', _⟩
    exact sq_of (x' _ _ hnm nna nnl)
  · rintro i x H' hi ⟨D', x', ps, qs, fs, lp, lq, lf, hDl', sm, hat⟩
    obtain ⟨nmz, hnz, rfl⟩ := map_at hi
    have i4 : i < 4 := by
      have := (List.getElem?_eq_some_iff.mp hnz).1
      omega
    refine ⟨rfl, yes_if ?_⟩
    refine ⟨.str nmz, rfl, .ref a, rfl, a, l, c, N + 2 * i, 30, rfl, D', by omega, by omega, by omega, fun f H3 f0 f30 D3 x3 => ?_⟩
    refine ⟨.ref a, rfl, a, l, c, N + 2 * i + 1, 12, rfl, D3, by omega, by omega, by omega, fun st H4 s0 s12 D4 x4 => ⟨1, st, rfl, rfl, (by show 2 ≤ sizeLine; decide), fun q hq => ⟨(by show 2 ≤ sizeLine; decide), fun p hp => ?_⟩⟩⟩
    have e5 : Ex H4 (upd H4 q (.tup [.int f, .int (1 + st)])) := Ex.new hq
    have e6 : Ex (upd H4 q (.tup [.int f, .int (1 + st)])) (upd (upd H4 q (.tup [.int f, .int (1 + st)])) p (.tup [.str nmz, .ref q])) := Ex.new hp
    have hDl4 : H4 Dl = some (.lst (ps.map V.ref)) := x4 _ _ (x3 _ _ hDl' nD.1 nD.2) nD.1 nD.2
    have hDl6 := e6 _ _ (e5 _ _ hDl4)
    have hqq := e6 _ _ (upd_same (H := H4) (a := q) (o := .tup [.int f, .int (1 + st)]))
    have hpp := upd_same (H := upd H4 q (.tup [.int f, .int (1 + st)])) (a := p) (o := .tup [.str nmz, .ref q])
    have e46 := e5.trans e6
    generalize upd (upd H4 q (.tup [.int f, .int (1 + st)])) p (.tup [.str nmz, .ref q]) = H6 at hDl6 hqq hpp e46 e6 ⊢
    have D6 := D4.mono e46
    have x16 : ExD a l H' H6 := (x3.trans x4).trans (ExD.of e46)
    refine ⟨ps.map V.ref, hDl6, by rw [List.length_map, lp]; exact small1000 (by omega), ?_⟩
    -- one more in the list
    have x7 : ∀ b o, H6 b = some o → b ≠ Dl → upd H6 Dl (.lst (ps.map V.ref ++ [.ref p])) b = some o := fun b o h n => by rw [upd_ne n]; exact h
    have tne : ∀ {b : Addr} {xs : List V}, H6 b = some (.tup xs) → b ≠ Dl := fun h => ne_of h hDl6 (by intro z; cases z)
    obtain ⟨kvs, lg, cs, rest, turn, h1, h2, h3, h4, h5, h6, h7, h8, h9⟩ := D6.ex
    have cne : c ≠ Dl := fun e => by
      obtain ⟨_, _, _, _, _, _, _, _, _, _, _, _, g8, _⟩ := hD.ex
      rw [e, hDl] at g8
      cases g8
    refine ⟨⟨kvs, lg, cs, rest, turn, x7 _ _ h1 (Ne.symm nD.1), h2, h3, h4, h5, h6, x7 _ _ h7 (Ne.symm nD.2), x7 _ _ h8 cne, ?_⟩, fun b o hb n1 n2 => ?_, ps ++ [p], qs ++ [q], fs ++ [(f, 1 + st)], by simp [lp], by simp [lq], by simp [lf], ?_, fun x hx => ?_, fun j p' q' z' x' a1 a2 a3 a4 => ?_⟩
    · have : N + 2 * (i + 1) = N + 2 * i + 1 + 1 := by omega
      rw [this]
      exact h9
    · exact x7 _ _ (x16 _ _ (x' _ _ hb n1 n2) n1 n2) (fun e => by rw [e, hDl] at hb; cases hb)
    · rw [upd_same, List.map_append]
      rfl
    · rcases List.mem_append.mp hx with h | h
      · exact sm x h
      · rw [List.mem_singleton.mp h]
        exact ⟨f0, f30, by show 1 ≤ 1 + st; omega, by show 1 + st ≤ 12; omega⟩
    · rcases snoc_at lp a1 with ⟨j1, b1⟩ | ⟨j1, b1⟩
      · rcases snoc_at lq a2 with ⟨_, b2⟩ | ⟨j2, _⟩
        · rcases snoc_at lf a4 with ⟨_, b4⟩ | ⟨j4, _⟩
          · obtain ⟨g1, g2⟩ := hat j p' q' z' x' b1 b2 a3 b4
            have g1' := D'.tup x16 g1
            have g2' := D'.tup x16 g2
            exact ⟨x7 _ _ g1' (tne g1'), x7 _ _ g2' (tne g2')⟩
          · omega
        · omega
      · subst j1 b1
        rcases snoc_at lq a2 with ⟨j2, _⟩ | ⟨_, b2⟩
        · omega
        · rcases snoc_at lf a4 with ⟨j4, _⟩ | ⟨_, b4⟩
          · omega
          · subst b2 b4
            rw [hnz] at a3
            cases a3
            exact ⟨x7 _ _ hpp (tne hpp), x7 _ _ hqq (tne hqq)⟩
  · rintro H' ⟨D', x', ps, qs, fs, lp, lq, lf, hDl', sm, hat⟩
    rw [List.length_map] at lp lq lf
    refine ⟨Dl, ps, List.zipWith (fun z q => ((Sum.inr z : Key), V.ref q)) zs qs, rfl, sq_of hDl', paired_of ?_ (fun j p kv hp hkv => ?_), fun rw hrw => ?_⟩
    · rw [List.length_zipWith, lq, lp, Nat.min_self]
    · obtain ⟨fx, hfx⟩ := get_of lf (i := j) (by have := (List.getElem?_eq_some_iff.mp hp).1; omega)
      obtain ⟨q, hq⟩ := get_of lq (i := j) (by have := (List.getElem?_eq_some_iff.mp hp).1; omega)
      obtain ⟨zz, hzz⟩ := get_of (l := zs) rfl (i := j) (by have := (List.getElem?_eq_some_iff.mp hp).1; omega)
      rw [List.getElem?_zipWith, hzz, hq] at hkv
      cases hkv
      exact st_of (hat j p q zz fx hp hq hzz hfx).1
    · have x6 : Ex H' (upd H' rw (.dK (mergeK [] (List.zipWith (fun z q => ((Sum.inr z : Key), V.ref q)) zs qs)))) := Ex.new hrw
      have nr := D'.newNe hrw
      refine k rw (zs.zip fs) _ ?_ (fun r hr => ?_) ((D'.mono x6).up ?_) (x'.trans (ExD.of x6)) ⟨_, upd_same, fun r hr => ?_⟩ nr.1 nr.2
      · unfold nms
        exact List.map_fst_zip (by omega)
      · exact sm _ (List.of_mem_zip hr).2
      · rw [List.length_map]
        omega
      · obtain ⟨j, hj1, hj2⟩ := mem_zip_at hr
        obtain ⟨q, hq⟩ := get_of lq (i := j) (by have := (List.getElem?_eq_some_iff.mp hj1).1; omega)
        obtain ⟨p, hp⟩ := get_of lp (i := j) (by have := (List.getElem?_eq_some_iff.mp hj1).1; omega)
        refine ⟨q, valV_merge_get (i := j) ?_ ?_, x6 _ _ (hat j p q r.1 r.2 hp hq hj1 hj2).2⟩
        · rw [List.map_zipWith]
          have e : List.zipWith (fun (z : Str) (q : Addr) => ((Sum.inr z : Key), V.ref q).1) zs qs = zs.map fun z => (Sum.inr z : Key) := by
            apply List.ext_getElem?
            intro i
            rw [List.getElem?_zipWith, List.getElem?_map]
            cases hz' : zs[i]? with
            | none => rfl
            | some z' =>
              obtain ⟨q', hq'⟩ := get_of lq (i := i) (by have := (List.getElem?_eq_some_iff.mp hz').1; omega)
              rw [hq']
              rfl
          rw [e]
          exact List.Pairwise.map _ (fun a b h => fun z => h (Sum.inr.inj z)) hnd
        · rw [List.getElem?_zipWith, hj1, hq]
end
end N56
namespace N56
open PySem PySem.Spec PyProof.Rows L2 Evl
open K56 (days num Is Never)
theorem getD_at {R : List Row} {i : Nat} {z : Str} (h : (nms R)[i]? = some z) : ∃ r, R[i]? = some r ∧ r ∈ R ∧ z = r.1 := by
  obtain ⟨r, hr, rfl⟩ := map_at h
  exact ⟨r, hr, List.mem_of_getElem? hr, rfl⟩
theorem strOk_of {x : Str} (h : GoodN x) : PyData.strOk x = true := by
  unfold PyData.strOk
  rw [Array.all_eq_true_iff_forall_mem]
  intro c hc
  have h1 := h.le c (Array.mem_toList_iff.mpr hc)
  have h2 : ∀ d ∈ lettersS.cps.toList, d < 0x110000 := by decide +kernel
  exact decide_eq_true (h2 c h1)
section
variable {K : PySem.W.Frag} {s a l c nm rw so : Addr} {y2 y4 y5 y6 y7 : Option V} {z : List (Option V)} {N : Nat} {H : Hp} {Q : VK} {R S : List Row}
/-- calendar = ('calendar', tuple([(name, tuple(range(..))) for name in names])) -/
theorem cal_ok (hG : GoodR R) (hR : RowsH H rw R) (hnm : H nm = some (.lst ((nms R).map V.str))) (k : ∀ cal H', Ex H H' → CalH H' cal (calOf R) → Q (.ref cal) H') :
    tTup (tCons (tC (.str "calendar")) (tCons (tCB (rTupF K) (tCons (tLc (iList K (tVar 3)) (gName 5) tYes (tTup (tCons (tVar 5) (tCons (tTupRg3 (tCons (tOp (rIxT K) (tDGet (tVar 4) (tVar 5)) (tC (.int 0))) (tCons (tC (.int 401)) (tCons (tOp (rIxT K) (tDGet (tVar 4) (tVar 5)) (tC (.int 1))) tNil)))) tNil))) [5]) tNil)) tNil))
      (some (.ref s) :: some (.ref a) :: y2 :: some (.ref nm) :: some (.ref rw) :: y5 :: z) H Q := by
  have l4 := hG.cur.l4
  unfold nms at l4
  rw [List.length_map] at l4
  refine ⟨.ref nm, rfl, nm, rfl, ⟨_, sq_of hnm⟩, fun Dl hDl => ?_⟩
  refine lc_list (K := K) (a := nm) (xs := (nms R).map V.str) (fun i H' => Ex H H' ∧ ∃ (ps qs : List Addr), ps.length = i ∧ qs.length = i ∧ H' Dl = some (.lst (ps.map V.ref)) ∧
    ∀ (j : Nat) p q r, ps[j]? = some p → qs[j]? = some q → R[j]? = some r → RowAt H' p q (r.1, days r.2.1 r.2.2)) ?_ ?_ ?_ ?_
  · exact ⟨Ex.new hDl, [], [], rfl, rfl, upd_same, (fun j p q r h => by cases h)⟩
  · rintro i H' _ ⟨x', _⟩
    exact sq_of (x' _ _ hnm)
  · rintro i x H' hi ⟨x', ps, qs, lp, lq, hDl', hat⟩
    obtain ⟨nmz, hnz, rfl⟩ := map_at hi
    obtain ⟨r, hri, hr, rfl⟩ := getD_at hnz
    have i4 : i < 4 := by
      have := (List.getElem?_eq_some_iff.mp hri).1
      omega
    obtain ⟨f0, f30, s1, s12⟩ := hG.sm r hr
    refine ⟨rfl, yes_if ?_⟩
    refine ⟨.str r.1, rfl, ?_⟩
    refine eu_rg3 (ea_row (hR.mono x') hr rfl rfl) f0 (by omega) (by omega) (by omega) H' (Ex.refl _) _ fun q H3 q0 e3 hq => ⟨(by show 2 ≤ sizeLine; decide), fun p hp => ?_⟩
    have e4 : Ex H3 (upd H3 p (.tup [.str r.1, .ref q])) := Ex.new hp
    have hDl4 := e4 _ _ (e3 _ _ hDl')
    have hpp := upd_same (H := H3) (a := p) (o := .tup [.str r.1, .ref q])
    have hqq := e4 _ _ hq
    have e34 := e3.trans e4
    generalize upd H3 p (.tup [.str r.1, .ref q]) = H4 at e4 hDl4 hpp hqq e34 ⊢
    refine ⟨ps.map V.ref, hDl4, by rw [List.length_map, lp]; exact small1000 (by omega), Ex.mut (x'.trans e34) hDl, ps ++ [p], qs ++ [q], by simp [lp], by simp [lq], by rw [upd_same, List.map_append]; rfl, fun j p' q' r' a1 a2 a3 => ?_⟩
    refine rowAt_upd hDl4 ?_
    rcases snoc_at lp a1 with ⟨j1, b1⟩ | ⟨j1, b1⟩
    · rcases snoc_at lq a2 with ⟨_, b2⟩ | ⟨j2, _⟩
      · exact (hat j p' q' r' b1 b2 a3).ex e34
      · omega
    · subst j1 b1
      rcases snoc_at lq a2 with ⟨j2, _⟩ | ⟨_, b2⟩
      · omega
      · subst b2
        rw [hri] at a3
        cases a3
        exact ⟨hpp, hqq⟩
  · rintro H' ⟨x', ps, qs, lp, lq, hDl', hat⟩
    have lR : (nms R).length = R.length := by
      unfold nms
      rw [List.length_map]
    rw [List.length_map, lR] at lp lq
    refine ⟨Dl, _, rfl, sq_of hDl', fun tt oo htt hoo => ⟨(by show 2 ≤ sizeLine; decide), fun pr hpr => ?_⟩⟩
    have x1 : Ex H' (upd H' tt (.frz oo (.tup (ps.map V.ref)))) := Ex.new htt
    have x2 := x1.trans (Ex.new (o := .tup [.str "calendar", .ref tt]) hpr)
    have ntp : tt ≠ pr := ne_of_none upd_same hpr
    refine k pr _ (x'.trans x2) ⟨tt, oo, ps, qs, upd_same, ?_, hoo, by rw [lp]; exact (List.length_map ..).symm, by rw [lq]; exact (List.length_map ..).symm, fun j p q r' a1 a2 a3 => ?_⟩
    · rw [upd_ne ntp]
      exact upd_same
    · obtain ⟨r2, b1, rfl⟩ := map_at a3
      exact (hat j p q r2 a1 a2 b1).ex x2
/-- some = tuple([name for name in names if _law_take(draw, 2) == 0]) -/
theorem some_ok (hG : GoodR R) (hD : Dr a l c N H) (hN : N + 20 < 1000000) (hnm : H nm = some (.lst ((nms R).map V.str))) (nna : nm ≠ a) (nnl : nm ≠ l)
    (k : ∀ so S H', S.Sublist R → Dr a l c (N + 4) H' → ExD a l H H' → H' so = some (.tup ((nms S).map V.str)) → Q (.ref so) H') :
    tCB (rTupS K) (tCons (tLc (iList K (tVar 3)) (gName 5) (tTest (tOp rEq (tCall spTake [] E0 (tCons (tVar 1) (tCons (tC (.int 2)) tNil))) (tC (.int 0)))) (tVar 5) [5]) tNil)
      (some (.ref s) :: some (.ref a) :: y2 :: some (.ref nm) :: y4 :: y5 :: z) H Q := by
  have l4 := hG.cur.l4
  have lR : (nms R).length = R.length := by
    unfold nms
    rw [List.length_map]
  rw [lR] at l4
  refine ⟨.ref nm, rfl, nm, rfl, ⟨_, sq_of hnm⟩, fun Dl hDl => ?_⟩
  have nD := hD.newNe hDl
  have cne : c ≠ Dl := fun e => by
    obtain ⟨_, _, _, _, _, _, _, _, _, _, _, _, g8, _⟩ := hD.ex
    rw [e, hDl] at g8
    cases g8
  refine lc_list (K := K) (a := nm) (xs := (nms R).map V.str) (fun i H' => Dr a l c (N + i) H' ∧ ExD a l H H' ∧ ∃ S : List Row, S.Sublist (R.take i) ∧ H' Dl = some (.lst ((nms S).map V.str))) ?_ ?_ ?_ ?_
  · exact ⟨hD.mono (Ex.new hDl), ExD.of (Ex.new hDl), [], List.nil_sublist _, upd_same⟩
  · rintro i H' _ ⟨_, x', _⟩
    exact sq_of (x' _ _ hnm nna nnl)
  · rintro i x H' hi ⟨D', x', S, hS, hDl'⟩
    obtain ⟨nmz, hnz, rfl⟩ := map_at hi
    obtain ⟨r, hri, hr, rfl⟩ := getD_at hnz
    have i4 : i < 4 := by
      have := (List.getElem?_eq_some_iff.mp hri).1
      omega
    have htk : R.take (i + 1) = R.take i ++ [r] := by
      rw [List.take_succ, hri]
      rfl
    refine ⟨rfl, ?_⟩
    refine ⟨.ref a, rfl, a, l, c, N + i, 2, rfl, D', by omega, by omega, by omega, fun v H3 v0 v2 D3 x3 => ⟨rfl, _, rfl, ?_⟩⟩
    have hDl3 := x3 _ _ hDl' nD.1 nD.2
    have lS : (nms S).length ≤ 4 := by
      have := (hS.trans (List.take_sublist _ _)).length_le
      unfold nms
      rw [List.length_map]
      omega
    cases hb : decide (V.int v = V.int 0) with
    | true =>
      refine Eq.mpr (if_pos rfl) ?_
      refine ⟨.str r.1, rfl, (nms S).map V.str, hDl3, by rw [List.length_map]; exact small1000 (by omega), ?_⟩
      have x7 : ∀ b o, H3 b = some o → b ≠ Dl → upd H3 Dl (.lst ((nms S).map V.str ++ [.str r.1])) b = some o := fun b o h n => by rw [upd_ne n]; exact h
      obtain ⟨kvs, lg, cs, rest, turn, h1, h2, h3, h4, h5, h6, h7, h8, h9⟩ := D3.ex
      refine ⟨⟨kvs, lg, cs, rest, turn, x7 _ _ h1 (Ne.symm nD.1), h2, h3, h4, h5, h6, x7 _ _ h7 (Ne.symm nD.2), x7 _ _ h8 cne, h9⟩, fun b o hb n1 n2 => ?_, S ++ [r], ?_, ?_⟩
      · exact x7 _ _ (x3 _ _ (x' _ _ hb n1 n2) n1 n2) (fun e => by rw [e, hDl] at hb; cases hb)
      · rw [htk]
        exact hS.append (List.Sublist.refl _)
      · rw [upd_same]
        unfold nms
        rw [List.map_append, List.map_append]
        rfl
    | false =>
      refine Eq.mpr (if_neg Bool.false_ne_true) ?_
      exact ⟨D3, x'.trans x3, S, by rw [htk]; exact hS.trans (List.sublist_append_left _ _), hDl3⟩
  · rintro H' ⟨D', x', S, hS, hDl'⟩
    rw [List.length_map, lR, List.take_length] at hS
    rw [List.length_map, lR] at D'
    refine ⟨Dl, _, rfl, Or.inl ⟨sq_of hDl', fun so hso => ?_⟩⟩
    have x6 : Ex H' (upd H' so (.tup ((nms S).map V.str))) := Ex.new hso
    exact k so S _ hS ((D'.mono x6).up (by omega)) (x'.trans (ExD.of x6)) upd_same
theorem shaped_tup {zs : List Str} (h : ∀ z ∈ zs, PyData.strOk z = true) : SeqAt.shaped (.tuple (zs.map PyData.str)) = true := by
  unfold SeqAt.shaped
  rw [PyData.canLay0, canLay_strs zs h, PyData.depth, depth_strs]
  rfl
/-- some if some != () else tuple(names) -/
theorem some2_ok (hG : GoodR R) (hS : S.Sublist R) (hso : H so = some (.tup ((nms S).map V.str))) (hnm : H nm = some (.lst ((nms R).map V.str))) (k : ∀ so' S' H', Ex H H' → S'.Sublist R → S' ≠ [] → H' so' = some (.tup ((nms S').map V.str)) → Q (.ref so') H') :
    tIf (tTest (tOp (rNeD K) (tVar 7) (tTup tNil))) (tVar 7) (tCB (rTupS K) (tCons (tVar 3) tNil)) (some (.ref s) :: some (.ref a) :: y2 :: some (.ref nm) :: y4 :: y5 :: y6 :: some (.ref so) :: z) H Q := by
  refine ⟨.ref so, rfl, Nat.zero_le _, fun n hn => ?_⟩
  have x1 : Ex H (upd H n (.tup [])) := Ex.new hn
  have ok : ∀ z ∈ nms S, PyData.strOk z = true := fun z hz => strOk_of (hG.cur.nm z ((hS.map _).subset hz))
  refine ⟨.tuple ((nms S).map .str), .tuple [], .tup (st_of (x1 _ _ hso)) (dp_strs _ _), .tup (st_of upd_same) .nil, shaped_tup ok, by decide, _, rfl, ?_⟩
  have eb : PyData.eqv (.tuple ((nms S).map .str)) (.tuple []) = S.isEmpty := by
    cases S with
    | nil => rfl
    | cons x r => rfl
  rw [eb]
  cases S with
  | nil =>
    refine Eq.mpr (if_neg Bool.false_ne_true) ?_
    refine ⟨.ref nm, rfl, nm, _, rfl, Or.inl ⟨sq_of (x1 _ _ hnm), fun t ht => ?_⟩⟩
    have x2 := x1.trans (Ex.new (o := .tup ((nms R).map V.str)) ht)
    refine k t R _ x2 (List.Sublist.refl _) (fun e => ?_) upd_same
    have := hG.cur.l1
    rw [e] at this
    exact absurd this (by decide)
  | cons x r =>
    refine Eq.mpr (if_pos rfl) ?_
    exact ⟨.ref so, rfl, k so (x :: r) _ x1 hS (List.cons_ne_nil _ _) (x1 _ _ hso)⟩
theorem pick_rows {kvs : List (Key × V)} (H : Hp) : ∀ S : List Row, (∀ r ∈ S, ∃ p, valV kvs (Sum.inr r.1) = some (.ref p) ∧ H p = some (.tup [.int r.2.1, .int r.2.2])) →
    ∃ ps : List Addr, ps.length = S.length ∧ ∀ (j : Nat) p r, ps[j]? = some p → S[j]? = some r → valV kvs (Sum.inr r.1) = some (.ref p) ∧ H p = some (.tup [.int r.2.1, .int r.2.2])
  | [], _ => ⟨[], rfl, fun j p r h => by cases h⟩
  | x :: S, h => by
    obtain ⟨ps, l, hp⟩ := pick_rows H S fun r hr => h r (List.mem_cons_of_mem _ hr)
    obtain ⟨p0, hp0⟩ := h x List.mem_cons_self
    refine ⟨p0 :: ps, by simp [l], fun j p r h1 h2 => ?_⟩
    cases j with
    | zero =>
      cases h1
      cases h2
      exact hp0
    | succ j => exact hp j p r (by simpa using h1) (by simpa using h2)
/-- told = _law_common([rows[name] for name in some]) -/
theorem told_ok (hG : GoodR R) (hS : S.Sublist R) (hne : S ≠ []) (hR : RowsH H rw R) (hso : H so = some (.tup ((nms S).map V.str))) (k : ∀ (tv : V) (t : Told) H', Ex H H' → ToldIs S t → ToldH H' tv t → Q tv H') :
    tCall (spJoin K) [] E0 (tCons (tLc (iTup K (tVar 7)) (gName 5) tYes (tDGet (tVar 4) (tVar 5)) [5]) tNil)
      (some (.ref s) :: some (.ref a) :: y2 :: y4 :: some (.ref rw) :: y5 :: y6 :: some (.ref so) :: z) H Q := by
  obtain ⟨kvs, hk, hv⟩ := hR
  obtain ⟨ps, lps, hps⟩ := pick_rows (kvs := kvs) H S fun r hr => hv r (hS.subset hr)
  have lS : (nms S).length = S.length := by
    unfold nms
    rw [List.length_map]
  have S4 : S.length ≤ 4 := by
    have h1 := (goodCur_sub hG hS hne).l4
    omega
  have key := el_lcT (K := K) (te := tDGet (tVar 4) (tVar 5)) (t := tYes) (σ := some (.ref s) :: some (.ref a) :: y2 :: y4 :: some (.ref rw) :: y5 :: y6 :: some (.ref so) :: z) (H := H) (j := 5) (vs := [5]) (tl := tVar 7) (xs := (nms S).map V.str) (fun _ => true) (fun i => .ref (ps.getD i 0)) (eq_ev (ev_var rfl) (st_of hso)) (by rw [List.length_map]; omega) (fun _ => rfl)
    (fun _ _ _ _ _ => et_yes)
    (fun i x H5 e5 hx _ => by
      obtain ⟨nmz, hnz, rfl⟩ := map_at hx
      obtain ⟨r, hri, hr, rfl⟩ := getD_at hnz
      obtain ⟨p, hp⟩ := get_of lps (i := i) (List.getElem?_eq_some_iff.mp hri).1
      rw [show ps.getD i 0 = p by rw [List.getD_eq_getElem?_getD, hp]; rfl]
      exact ev_dget (k := Sum.inr r.1) (ev_var rfl) (ev_var (v := kV (Sum.inr r.1)) rfl) (e5 _ _ hk) (hps i p r hp hri).1)
  rw [List.length_map, lS, ← lps, given_map (0 : Addr) V.ref ps] at key
  show tLc (iTup K (tVar 7)) (gName 5) tYes (tDGet (tVar 4) (tVar 5)) [5] _ H fun x H1 => spJoin K ([x] ++ []) H1 Q E0
  refine key H (Ex.refl _) _ fun rr H2 _ e2 hrr => ?_
  refine ⟨rr, jn S, rfl, ⟨ps, sq_of hrr, by unfold jn; rw [List.length_map, lps], fun j p x hp hx => ?_⟩, ?_, ?_, fun x hx => ?_, fun hN H' e' => k .non none H' (e2.trans e') hN rfl, fun first step p H' hI f0 f4 s0 s2 e' hp => k (.ref p) (some (first, step)) H' (e2.trans e') ⟨hI, f0, f4, s0, s2⟩ ⟨p, rfl, hp⟩⟩
  · obtain ⟨r, hr, rfl⟩ := map_at hx
    exact e2 _ _ (hps j p r hp hr).2
  · unfold jn
    rw [List.length_map]
    exact List.length_pos_iff.mpr hne
  · unfold jn
    rw [List.length_map]
    exact S4
  · obtain ⟨r, hr, rfl⟩ := List.mem_map.mp hx
    exact hG.sm r (hS.subset hr)
end
end N56
namespace N56
open PySem PySem.Spec PyProof.Rows L2 Evl
open K56 (days num Is Never)
def tTurn (K : PySem.W.Frag) (C PT : Addr) : TS := (tSeq (tAsg (tCall spNames [] E0 (tCons (tVar 1) (tCons (tOp (rI0 fun i j => .int (i + j)) (tC (.int 1)) (tCall spTake [] E0 (tCons (tVar 1) (tCons (tC (.int 4)) tNil)))) tNil))) (gName 3)) (tSeq (tAsg (tCB (rDictL K) (tCons (tLc (iList K (tVar 3)) (gName 5) tYes (tTup (tCons (tVar 5) (tCons (tTup (tCons (tCall spTake [] E0 (tCons (tVar 1) (tCons (tC (.int 30)) tNil))) (tCons (tOp (rI0 fun i j => .int (i + j)) (tC (.int 1)) (tCall spTake [] E0 (tCons (tVar 1) (tCons (tC (.int 12)) tNil)))) tNil))) tNil))) [5]) tNil)) (gName 4)) (tSeq (tAsg (tTup (tCons (tC (.str ("calendar"))) (tCons (tCB (rTupF K) (tCons (tLc (iList K (tVar 3)) (gName 5) tYes (tTup (tCons (tVar 5) (tCons (tTupRg3 (tCons (tOp (rIxT K) (tDGet (tVar 4) (tVar 5)) (tC (.int 0))) (tCons (tC (.int 401)) (tCons (tOp (rIxT K) (tDGet (tVar 4) (tVar 5)) (tC (.int 1))) tNil)))) tNil))) [5]) tNil)) tNil))) (gName 6)) (tSeq (tAsg (tCB (rTupS K) (tCons (tLc (iList K (tVar 3)) (gName 5) (tTest (tOp rEq (tCall spTake [] E0 (tCons (tVar 1) (tCons (tC (.int 2)) tNil))) (tC (.int 0)))) (tVar 5) [5]) tNil)) (gName 7)) (tSeq (tAsg (tIf (tTest (tOp (rNeD K) (tVar 7) (tTup tNil))) (tVar 7) (tCB (rTupS K) (tCons (tVar 3) tNil))) (gName 7)) (tSeq (tAsg (tCall (spJoin K) [] E0 (tCons (tLc (iTup K (tVar 7)) (gName 5) tYes (tDGet (tVar 4) (tVar 5)) [5]) tNil)) (gName 8)) (tSeq (tAsg (tIf (tTest (tOp rIsNon (tVar 8) (tC .non))) (tTup tNil) (tTupRg3 (tCons (tOp (rIxT K) (tVar 8) (tC (.int 0))) (tCons (tC (.int 401)) (tCons (tOp (rIxT K) (tVar 8) (tC (.int 1))) tNil))))) (gName 9)) (tSeq (tIfS (tNot (tB (tCall (spSame K) [] E0 (tCons (tLst (tCons (tCall (spB PreCal) [] E0 (tCons (tVar 6) tNil)) (tCons (tCall spCom [] E0 (tCons (tVar 6) (tCons (tVar 7) tNil))) tNil))) (tCons (tLst (tCons (tC (.bl true)) (tCons (tVar 9) tNil))) tNil))))) (tRet (tC (.bl false))) tNext) (tSeq (tFor (iRng1 (tCons (tC (.int 6)) tNil)) (gName 10) (tLap K)) (tEnd K C PT))))))))))
def tLaw (K : PySem.W.Frag) (C PT : Addr) : TS := tSeq (tAsg (tCall (spBegun K) [] E0 (tCons (tVar 0) tNil)) (gName 1)) (tSeq (tFor (iRng1 (tCons (tOp (rI0 fun i j => .int (i + j)) (tC (.int 2)) (tCB (fun xs H Q => ∃ i j, xs = [.int i, .int j] ∧ Q (.int (if j < i then j else i)) H) (tCons (tCB (rLenS K) (tCons (tVar 0) tNil)) (tCons (tC (.int 4)) tNil)))) tNil)) (gName 2) (tTurn K C PT)) (tRet (tC (.bl true)))) 

section
variable {K : PySem.W.Frag} {σ : L2.St} {H : Hp} {ta tb : TE} {t : TT}
theorem eu_if {b : Bool} {xs : List V} (h : EvT t σ H b) (h1 : b = true → EvU ta σ H xs) (h2 : b = false → EvU tb σ H xs) : EvU (tIf t ta tb) σ H xs := fun H1 e Q q => by
  refine h H1 e _ fun H2 e2 => ?_
  cases b with
  | true =>
    refine Eq.mpr (if_pos rfl) ?_
    exact h1 rfl H2 (e.trans e2) Q fun p H3 hp e3 hx => q p H3 (fresh_back e2 hp) (e2.trans e3) hx
  | false =>
    refine Eq.mpr (if_neg Bool.false_ne_true) ?_
    exact h2 rfl H2 (e.trans e2) Q fun p H3 hp e3 hx => q p H3 (fresh_back e2 hp) (e2.trans e3) hx
theorem ev_min2 {i j : Int} (ha : Ev ta σ H (.int i)) (hb : Ev tb σ H (.int j)) : Ev (tCB (fun xs H Q => ∃ i j, xs = [.int i, .int j] ∧ Q (.int (if j < i then j else i)) H) (tCons ta (tCons tb tNil))) σ H (.int (if j < i then j else i)) := fun H1 e Q q => by
  refine ha H1 e _ fun H2 e2 => ?_
  refine hb H2 (e.trans e2) _ fun H3 e3 => ?_
  exact ⟨i, j, rfl, q H3 (e2.trans e3)⟩
end
section
variable {K : PySem.W.Frag} {D : Ends} {s a l c PT C : Addr} {y2 y3 y4 y5 y6 y7 y8 y9 y10 y11 y12 y13 y14 y15 y16 y17 y18 y19 y20 y21 y22 y23 : Option V} {N : Nat} {H : Hp}
theorem turn_ok (hD : Dr a l c N H) (hN : N + 1000 < 900000) (hTb : TbL PT H)
    (k : ∀ (y3 y4 y5 y6 y7 y8 y9 y10 y11 y12 y13 y14 y15 y16 y17 y18 y19 y20 y21 y22 y23 : Option V) H', Dr a l c (N + 100) H' → TbL PT H' → D.nx [some (.ref s), some (.ref a), y2, y3, y4, y5, y6, y7, y8, y9, y10, y11, y12, y13, y14, y15, y16, y17, y18, y19, y20, y21, y22, y23] H') :
    tTurn K C PT D [some (.ref s), some (.ref a), y2, y3, y4, y5, y6, y7, y8, y9, y10, y11, y12, y13, y14, y15, y16, y17, y18, y19, y20, y21, y22, y23] H := by
  -- names
  refine ⟨.ref a, rfl, .ref a, rfl, a, l, c, N, 4, rfl, hD, by omega, by omega, by omega, fun v H1 v0 v4 D1 x1 => ⟨1, v, rfl, rfl, ?_⟩⟩
  refine ⟨a, l, c, N + 1, 1 + v, rfl, D1, by omega, by omega, by omega, fun nm zs H2 gz hlen D2 x2 hn0 hnm => ?_⟩
  dsimp only [gName]
  have T2 := tb_exD (tb_exD hTb hD x1) D1 x2
  have nn := D1.newNe hn0
  -- rows
  refine q_asgK (rows_ok D2 (by omega) hnm nn.1 nn.2 gz.l4 (asc_nodup gz.asc) fun rw R H3 hR sm D3 x3 hRows nrw nrl => ?_)
  subst hR
  have hG : GoodR R := ⟨gz, sm⟩
  have hnm3 := x3 _ _ hnm nn.1 nn.2
  have T3 := tb_exD T2 D2 x3
  -- calendar
  refine q_asgK (cal_ok hG hRows hnm3 fun cal H4 e4 hcal => ?_)
  have D4 := D3.mono e4
  -- some
  refine q_asgK (some_ok hG D4 (by omega) (e4 _ _ hnm3) nn.1 nn.2 fun so0 S0 H5 hS0 D5 x5 hso0 => ?_)
  have hnm5 := x5 _ _ (e4 _ _ hnm3) nn.1 nn.2
  have T5 := tb_exD (tb_ex T3 e4) D4 x5
  refine q_asgK (some2_ok hG hS0 hso0 hnm5 fun so S H6 e6 hS hne hso => ?_)
  have rows6 : RowsH H6 rw R := ((hRows.mono e4).exD D4 x5 nrw nrl).mono e6
  have cal6 : CalH H6 cal (calOf R) := (hcal.exD D4 x5).mono e6
  -- told
  refine q_asgK (told_ok hG hS hne rows6 hso fun tv t H7 e7 hT htv => ?_)
  -- days
  refine q_asgU (xs := (dd t).map V.int) (eu_if (b := decide (tv = .non)) (et_test (ev_isNon (ev_var rfl))) (fun hb => ?_) fun hb => ?_) fun dy H8 dy0 e8 hdy => ?_
  · have e := of_decide_eq_true hb
    cases t with
    | none => exact eu_tup ea_nil (Nat.zero_le _)
    | some pr =>
      obtain ⟨f, st⟩ := pr
      obtain ⟨p, rfl, _⟩ := htv
      cases e
  · have e := of_decide_eq_false hb
    cases t with
    | none => exact absurd htv e
    | some pr =>
      obtain ⟨f, st⟩ := pr
      obtain ⟨p, rfl, hp⟩ := htv
      obtain ⟨_, f0, f4, s0, s2⟩ := hT
      exact eu_rg3 (ea_cons (ev_op (ev_var rfl) ev_c (rv_ixT (st_of hp) (at_of (j := 0) rfl rfl))) (ea_cons ev_c (ea_cons (ev_op (ev_var rfl) ev_c (rv_ixT (st_of hp) (at_of (j := 1) rfl rfl))) ea_nil))) f0 f4 s0 s2
  have e68 := e7.trans e8
  have hB : Bk a l rw cal so dy tv R S t H8 := ⟨nrw, nrl, rows6.mono e68, cal6.mono e68, e68 _ _ hso, htv.mono e8, hdy⟩
  have D8 := D5.mono (e6.trans e68)
  have T8 := tb_ex T5 (e6.trans e68)
  -- is_calendar, open_days
  refine q_same (d := .list [.bool true, .tuple ((dd t).map .int)]) (ep_two (ep_bl (ev_callB (ea_cons (ev_var rfl) ea_nil) fun H9 e9 => ⟨cal, calOf R, rfl, hB.cal.mono e9, goodCal_of hG⟩)) (ep_w ?_))
    (ep_two (ep_bl ev_c) (ep_w (ew_ev (ev_var rfl) hB.dy))) (sm_two (smI_bl _) (smI_tup (fun n hn => by have := dd_rng hT n hn; omega) (Nat.le_trans (dd_len hT) (by decide)))) fun H9 e9 => ?_
  · rw [← cm_told hG hS hne hT]
    exact ew_com (ea_cons (ev_var rfl) (ea_cons (ev_var rfl) ea_nil)) hB.cal (goodCal_of hG) hB.so (goodCur_sub hG hS hne) (within_of hS)
  have B9 := hB.mono e9
  have D9 := D8.mono e9
  have T9 := tb_ex T8 e9
  -- laps
  refine q_forR1 (σ := sg s a y2 (some (.ref nm)) rw y5 cal so tv dy [y10, y11, y12, y13, y14, y15, y16, y17, y18, y19, y20, y21, y22, y23]) (n := 6) (ea_cons ev_c ea_nil) ⟨by omega, by omega⟩
    (fun i σ' H' => ∃ (z10 z11 z12 z13 z14 z15 z16 z17 z18 z19 z20 : Option V), σ' = sg s a y2 (some (.ref nm)) rw y5 cal so tv dy [z10, z11, z12, z13, z14, z15, z16, z17, z18, z19, z20, y21, y22, y23] ∧ Dr a l c (N + 33 + 5 * i) H' ∧ ExD a l H9 H')
    (fun H10 e10 => ⟨y10, y11, y12, y13, y14, y15, y16, y17, y18, y19, y20, rfl, (D9.mono e10).up (by omega), ExD.of e10⟩) (fun i σ' H' hi hP => ?_) fun σ' H' hP => ?_
  · obtain ⟨z10, z11, z12, z13, z14, z15, z16, z17, z18, z19, z20, rfl, D', x'⟩ := hP
    exact lap_ok (y10 := some (.int (i : Int))) hG hS hne hT D' (by omega) (B9.exD D9 x') fun w11 w12 w13 w14 w15 w16 w17 w18 w19 w20 H11 D11 x11 => ⟨_, w11, w12, w13, w14, w15, w16, w17, w18, w19, w20, rfl, D11.up (by omega), x'.trans x11⟩
  · obtain ⟨z10, z11, z12, z13, z14, z15, z16, z17, z18, z19, z20, rfl, D', x'⟩ := hP
    exact end_ok hG hS hne hT D' (by have : (6 : Int).toNat = 6 := rfl; omega) (tb_exD T9 D9 x') (B9.exD D9 x') fun w5 w21 w22 w23 H11 D11 T11 => k _ _ _ _ _ _ _ _ _ _ _ _ _ _ _ _ _ _ _ _ _ H11 (D11.up (by have : (6 : Int).toNat = 6 := rfl; omega)) T11
theorem law_sem {ns : List Int} {Q : VK} (hS : SqL K H s (ns.map V.int)) (hlen : ns.length ≤ 63) (hPT : H PT = some (.tbl #[])) (k : ∀ H', Q (.bl true) H') :
    tLaw K C PT { nx := fun _ H' => Q .non H', rt := Q } (L2.start N_law [.ref s]) H := by
  refine ⟨.ref s, rfl, s, ns, rfl, hS, hlen, fun a l c H1 e1 D1 hn0 hl0 => ?_⟩
  dsimp only [gName]
  have T1 : TbL PT H1 := fun p hp => by
    rw [List.mem_singleton] at hp
    rw [hp]
    exact LamX.TabS.nil (e1 _ _ hPT)
  have len : Ev (tCB (rLenS K) (tCons (tVar 0) tNil)) (List.set (L2.start N_law [.ref s]) 1 (some (.ref a))) H1 (.int (((ns.map V.int).length : Nat) : Int)) := ev_len (ev_var rfl) (ex_l e1 hS)
  rw [List.length_map] at len
  refine q_forR1 (σ := List.set (L2.start N_law [.ref s]) 1 (some (.ref a))) (n := 2 + (if (4 : Int) < (ns.length : Int) then 4 else (ns.length : Int))) (ea_cons (ev_add ev_c (ev_min2 len ev_c)) ea_nil) ⟨by split <;> omega, by split <;> omega⟩
    (fun i σ' H' => ∃ (y2 y3 y4 y5 y6 y7 y8 y9 y10 y11 y12 y13 y14 y15 y16 y17 y18 y19 y20 y21 y22 y23 : Option V), σ' = [some (.ref s), some (.ref a), y2, y3, y4, y5, y6, y7, y8, y9, y10, y11, y12, y13, y14, y15, y16, y17, y18, y19, y20, y21, y22, y23] ∧ Dr a l c (100 * i) H' ∧ TbL PT H')
    (fun H2 e2 => ⟨none, none, none, none, none, none, none, none, none, none, none, none, none, none, none, none, none, none, none, none, none, none, rfl, D1.mono e2, tb_ex T1 e2⟩) (fun i σ' H' hi hP => ?_) fun σ' H' hP => ?_
  · obtain ⟨y2, y3, y4, y5, y6, y7, y8, y9, y10, y11, y12, y13, y14, y15, y16, y17, y18, y19, y20, y21, y22, y23, rfl, D', T'⟩ := hP
    have i6 : i < 6 := by
      split at hi <;> omega
    exact turn_ok (y2 := some (.int (i : Int))) D' (by omega) T' fun z3 z4 z5 z6 z7 z8 z9 z10 z11 z12 z13 z14 z15 z16 z17 z18 z19 z20 z21 z22 z23 H2 D2 T2 => ⟨_, z3, z4, z5, z6, z7, z8, z9, z10, z11, z12, z13, z14, z15, z16, z17, z18, z19, z20, z21, z22, z23, rfl, D2.up (by omega), T2⟩
  · exact k _
end
end N56
namespace N56
open PySem PySem.Spec PyProof.Rows L2 Evl
section
variable {P : Program} {w : World} {K : PySem.W.Frag} {mg : Str → Option Value} {base : Heap} {f fClo fCau cL PT : Addr} {fd fdX fdC : FuncData} {aK : Addr} {tL : Tok} {C DE : Addr}
theorem ok_law {oc kV doc pm ct : Value} {od an : Option Addr} {osl : Array (Option Value)} (lk : K.lookup f = some ⟨oc, od, .func (PySem.W.fnOf "law" "law" (defArgs s_law) (defBody s_law) (defScope s_law) .none kV doc pm an (.ref cL) ct), osl⟩) (hcd : PySem.W.codeIn K (.ref cL) "law" = true)
    (T : Tx K mg aK tL) (NT : NoT K mg C DE) (TB : LamX.TabB base mg cL PT)
    (FC : Fun K "_law_caught" "_law_caught" s__law_caught fCau fdC) (gCau : mg "_law_caught" = some (.ref fCau)) (kCau : PySem.W.keepIn K (.ref fCau) = true) (bC : Binds K fdC ["work"] [])
    (FX : FnOk P w K mg base (L2.CX P w) 5 fClo fdX ["calendar", "currency", "day"] (spCloX C)) (gClo : mg "closed" = some (.ref fClo)) (kClo : PySem.W.keepIn K (.ref fClo) = true) (bClo : Binds K fdX ["calendar", "currency", "day"] [])
    (c_is_calendar : Cal P w K mg base CX0 4 "is_calendar" ["thing"] (spB PreCal)) (c_open_days : Cal P w K mg base CX0 6 "open_days" ["calendar", "currencies"] spCom)
    (c_settles : Cal P w K mg base CX0 6 "settles" ["calendar", "currencies", "day", "late", "lag"] spSet) (KB_settles : CalK P w K mg base 6 "settles" ["calendar", "currencies", "day", "late", "lag"] ["lag", "late", "day", "currencies", "calendar"] gSet gSetV spSet)
    (c_latest : Cal P w K mg base CX0 6 "latest" ["calendar", "currencies", "day", "lag"] spLat) (c_closed : Cal P w K mg base CX0 5 "closed" ["calendar", "currency", "day"] spClo)
    (c__law_begun : Cal P w K mg base CX0 1 "_law_begun" ["script"] (spBegun K)) (c__law_take : Cal P w K mg base CX0 2 "_law_take" ["draw", "size"] spTake) (c__law_pick : Cal P w K mg base CX0 3 "_law_pick" ["draw", "some"] spPick)
    (c__law_names : Cal P w K mg base CX0 4 "_law_names" ["draw", "many"] spNames) (c__law_common : Cal P w K mg base CX0 1 "_law_common" ["rows"] (spJoin K)) (c__law_same : CalG P w K mg base 1 "_law_same" ["one", "right"] (spSame K)) :
    ∀ (A : Around) (outer : List Env) (s : Shared) (H : Hp) (args : Args) (us : List Value) (vs : List V) (Q : VK) (E : XK), A.guards = some [] → Room 8 A → Env0 P w K mg base A outer s H → BindsTo s (PySem.W.fnOf "law" "law" (defArgs s_law) (defBody s_law) (defScope s_law) .none kV doc pm an (.ref cL) ct) args ((["script"] : List Str).zip us) → Vals vs us → spLaw K PT vs H Q E →
      codeAny (model P w) A (.call (.ref f) args) (CR CX0 outer P w H s Q E) s := by
  intro A outer s H args us vs Q E hG hr0 e0 hbd r hsp
  obtain ⟨oc2, od2, kV2, doc2, pm2, an2, cdv2, ct2, osl2, rfl, lkCau, hcCau⟩ := FC.ex
  have bCau := bC
  refine LamX.run_ofS lk hcd sc_law hr0 e0 hbd r (by obtain ⟨_, _, rfl, _⟩ := hsp; rfl) fun hr => ?_
  have hu := hu_of hr
  suffices h : ∃ t, PSs (cxOf CX0 P w K mg base N_law "law" (defScope s_law) f (.ref cL) A outer s H E).nox (defBody s_law) t ∧ t { nx := fun _ H' => Q .non H', rt := Q } (L2.start N_law vs) H by
    obtain ⟨t, h1, h2⟩ := h
    exact ⟨t, h1.nox, h2⟩
  refine ⟨_, (pss_cons (ps_set (i := 1) sc_law.nd rfl (Or.inr rfl) (pe_cl c__law_begun hr (by decide) (by rfl) (pa_cons (pv 0) pa_nil)))
      (pss_cons (ps_for PassesOwn.never rfl (pi_range1 (by rfl) T.range (pa_cons (pe_op op_add pe_int (pe_callB (call_min2 rfl) (by rfl) T.min (by decide +kernel) (pa_cons (pe_callB (crLen (K := K) rfl) (by rfl) T.len (by decide +kernel) (pa_cons (pv 0) pa_nil)) (pa_cons pe_int pa_nil)))) pa_nil)) (pg_name (i := 2) sc_law.nd rfl (Or.inl rfl))
        (pss_cons (ps_set (i := 3) sc_law.nd rfl (Or.inl rfl) (pe_cl c__law_names hr (by decide) (by rfl) (pa_cons (pv 1) (pa_cons (pe_op op_add pe_int (pe_cl c__law_take hr (by decide) (by rfl) (pa_cons (pv 1) (pa_cons pe_int pa_nil)))) pa_nil))))
      (pss_cons (ps_set (i := 4) sc_law.nd rfl (Or.inr rfl) (pe_callTy (crDictL (K := K) rfl rfl) (by rfl) T.dict (by decide +kernel) (pa_cons (pe_lc (own := [("name", 5)]) rfl sc_law.nd (piLst (K := K) rfl (pv 3)) (blkOk_by (own := [("name", 5)]) (N := N_law) (sc := defScope s_law) (by decide +kernel)) (fun _ _ _ _ _ => (pg_name (i := 5) sc_law.nd rfl (Or.inl rfl))) (fun _ _ _ _ _ => pts_nil) (fun _ _ _ _ _ => (pe_tup (pa_cons (pv 5) (pa_cons (pe_tup (pa_cons (pe_cl c__law_take hr (by decide) (by rfl) (pa_cons (pv 1) (pa_cons pe_int pa_nil))) (pa_cons (pe_op op_add pe_int (pe_cl c__law_take hr (by decide) (by rfl) (pa_cons (pv 1) (pa_cons pe_int pa_nil)))) pa_nil))) pa_nil))))) pa_nil)))
      (pss_cons (ps_set (i := 6) sc_law.nd rfl (Or.inl rfl) (pe_tup (pa_cons pe_str (pa_cons (pe_callTy (crTupF (K := K) rfl) (by rfl) T.tuple (by decide +kernel) (pa_cons (pe_lc (own := [("name", 5)]) rfl sc_law.nd (piLst (K := K) rfl (pv 3)) (blkOk_by (own := [("name", 5)]) (N := N_law) (sc := defScope s_law) (by decide +kernel)) (fun _ _ _ _ _ => (pg_name (i := 5) sc_law.nd rfl (Or.inl rfl))) (fun _ _ _ _ _ => pts_nil) (fun _ _ _ _ _ => (pe_tup (pa_cons (pv 5) (pa_cons (pe_tupRg3 rfl (by rfl) T.tuple (by rfl) T.range (pa_cons (pe_ix (ixT (K := K) rfl) (pe_dget hu (pv 4) (pv 5) (fun _ _ => rfl)) pe_int (fun _ _ => rfl)) (pa_cons pe_int (pa_cons (pe_ix (ixT (K := K) rfl) (pe_dget hu (pv 4) (pv 5) (fun _ _ => rfl)) pe_int (fun _ _ => rfl)) pa_nil)))) pa_nil))))) pa_nil)) pa_nil))))
      (pss_cons (ps_set (i := 7) sc_law.nd rfl (Or.inl rfl) (pe_callTy (crTup (K := K) rfl) (by rfl) T.tuple (by decide +kernel) (pa_cons (pe_lc (own := [("name", 5)]) rfl sc_law.nd (piLst (K := K) rfl (pv 3)) (blkOk_by (own := [("name", 5)]) (N := N_law) (sc := defScope s_law) (by decide +kernel)) (fun _ _ _ _ _ => (pg_name (i := 5) sc_law.nd rfl (Or.inl rfl))) (fun _ _ _ _ _ => pts_one (pt_cmpR op_eq (pe_cl c__law_take hr (by decide) (by rfl) (pa_cons (pv 1) (pa_cons pe_int pa_nil))) pe_int (nomark _))) (fun _ _ _ _ _ => (pv 5))) pa_nil)))
      (pss_cons (ps_set (i := 7) sc_law.nd rfl (Or.inl rfl) (pe_ifExp (pt_cmpR (opNeD (K := K) rfl hr.units) (pv 7) (pe_tup pa_nil) (nomark _)) (pv 7) (pe_callTy (crTup (K := K) rfl) (by rfl) T.tuple (by decide +kernel) (pa_cons (pv 3) pa_nil))))
      (pss_cons (ps_set (i := 8) sc_law.nd rfl (Or.inl rfl) (pe_cl c__law_common hr (by decide) (by rfl) (pa_cons (pe_lc (own := [("name", 5)]) rfl sc_law.nd (piTup (K := K) rfl (pv 7)) (blkOk_by (own := [("name", 5)]) (N := N_law) (sc := defScope s_law) (by decide +kernel)) (fun _ _ _ _ _ => (pg_name (i := 5) sc_law.nd rfl (Or.inl rfl))) (fun _ _ _ _ _ => pts_nil) (fun _ _ _ _ _ => (pe_dget hu (pv 4) (pv 5) (fun _ _ => rfl)))) pa_nil)))
      (pss_cons (ps_set (i := 9) sc_law.nd rfl (Or.inl rfl) (pe_ifExp (pt_cmpR op_isN (pv 8) pe_non (nomark _)) (pe_tup pa_nil) (pe_tupRg3 rfl (by rfl) T.tuple (by rfl) T.range (pa_cons (pe_ix (ixT (K := K) rfl) (pv 8) pe_int (fun _ _ => rfl)) (pa_cons pe_int (pa_cons (pe_ix (ixT (K := K) rfl) (pv 8) pe_int (fun _ _ => rfl)) pa_nil))))))
      (pss_cons (ps_if (pt_not (pt_val (pe_clG c__law_same hG hr (by decide) (by rfl) (pa_cons (pe_lst (pa_cons (pe_cl c_is_calendar hr (by decide) (by rfl) (pa_cons (pv 6) pa_nil)) (pa_cons (pe_cl c_open_days hr (by decide) (by rfl) (pa_cons (pv 6) (pa_cons (pv 7) pa_nil))) pa_nil))) (pa_cons (pe_lst (pa_cons pe_bl (pa_cons (pv 9) pa_nil))) pa_nil)))))
        (pss_one (ps_ret pe_bl))
        pss_nil)
      (pss_cons (ps_for PassesOwn.never rfl (pi_range1 (by rfl) T.range (pa_cons pe_int pa_nil)) (pg_name (i := 10) sc_law.nd rfl (Or.inl rfl))
        (pss_cons (ps_par3 (i := 11) (j := 12) (l := 13) (by rfl) sc_law.nd rfl rfl rfl (by decide) (by decide) (by decide) rfl rfl rfl (pa_cons (pe_cl c__law_take hr (by decide) (by rfl) (pa_cons (pv 1) (pa_cons pe_int pa_nil))) (pa_cons (pe_cmpR op_eq (pe_cl c__law_take hr (by decide) (by rfl) (pa_cons (pv 1) (pa_cons pe_int pa_nil))) pe_int (nomark _)) (pa_cons (pe_cl c__law_pick hr (by decide) (by rfl) (pa_cons (pv 1) (pa_cons (pe_lst (pa_cons pe_int (pa_cons pe_int (pa_cons (pe_cl c__law_take hr (by decide) (by rfl) (pa_cons (pv 1) (pa_cons pe_int pa_nil))) pa_nil)))) pa_nil))) pa_nil))) (by rfl))
      (pss_cons (ps_asg (pe_tup (pa_cons pe_non (pa_cons pe_non pa_nil))) (pg_tup rfl (pgs_cons (pg_name (i := 14) sc_law.nd rfl (Or.inl rfl)) (pgs_cons (pg_name (i := 15) sc_law.nd rfl (Or.inl rfl)) pgs_nil))))
      (pss_cons (ps_if (pt_cmpR op_notN (pv 8) pe_non (nomark _))
        (pss_cons (ps_set (i := 16) sc_law.nd rfl (Or.inl rfl) (pe_ifExp (pt_val (pv 12)) (pe_op op_add (pv 11) pe_int) (pv 11)))
      (pss_cons (ps_set (i := 17) sc_law.nd rfl (Or.inl rfl) (pe_callB (call_max2 rfl) (by rfl) T.max (by decide +kernel) (pa_cons pe_int (pa_cons (pe_op op_fdiv (pe_op op_sub (pe_op op_add (pe_op op_sub (pv 16) (pe_ix (ixT (K := K) rfl) (pv 8) pe_int (fun _ _ => rfl))) (pe_ix (ixT (K := K) rfl) (pv 8) pe_int (fun _ _ => rfl))) pe_int) (pe_ix (ixT (K := K) rfl) (pv 8) pe_int (fun _ _ => rfl))) pa_nil))))
      (pss_cons (ps_set (i := 14) sc_law.nd rfl (Or.inl rfl) (pe_op op_add (pe_ix (ixT (K := K) rfl) (pv 8) pe_int (fun _ _ => rfl)) (pe_op op_mul (pe_ix (ixT (K := K) rfl) (pv 8) pe_int (fun _ _ => rfl)) (pe_op op_add (pv 17) (pv 13)))))
      (pss_cons (ps_set (i := 14) sc_law.nd rfl (Or.inl rfl) (pe_ifExp (pt_cmpR op_le (pv 14) pe_int (nomark _)) (pv 14) pe_non))
      (pss_cons (ps_set (i := 18) sc_law.nd rfl (Or.inl rfl) (pe_op op_sub (pe_op op_fdiv (pe_op op_sub (pv 11) (pe_ix (ixT (K := K) rfl) (pv 8) pe_int (fun _ _ => rfl))) (pe_ix (ixT (K := K) rfl) (pv 8) pe_int (fun _ _ => rfl))) (pv 13)))
      (pss_one (ps_if (PW.pt (pw_and (pt_cmpR op_ge (pv 11) (pe_ix (ixT (K := K) rfl) (pv 8) pe_int (fun _ _ => rfl)) (nomark _)) (pw_and1 (pt_cmpR op_ge (pv 18) pe_int (nomark _)))))
        (pss_one (ps_set (i := 15) sc_law.nd rfl (Or.inl rfl) (pe_op op_add (pe_ix (ixT (K := K) rfl) (pv 8) pe_int (fun _ _ => rfl)) (pe_op op_mul (pe_ix (ixT (K := K) rfl) (pv 8) pe_int (fun _ _ => rfl)) (pv 18)))))
        pss_nil)))))))
        pss_nil)
      (pss_cons (ps_if (pt_not (pt_val (pe_clG c__law_same hG hr (by decide) (by rfl) (pa_cons (pe_lst (pa_cons (pe_cl c_settles hr (by decide) (by rfl) (pa_cons (pv 6) (pa_cons (pv 7) (pa_cons (pv 11) (pa_cons (pv 12) (pa_cons (pv 13) pa_nil)))))) (pa_cons (pe_clK0 KB_settles hr (by decide) (by rfl) (pk_cons (pv 13) (pk_cons (pv 12) (pk_cons (pv 11) (pk_cons (pv 7) (pk_cons (pv 6) pk_nil)))))) pa_nil))) (pa_cons (pe_lst (pa_cons (pv 14) (pa_cons (pv 14) pa_nil))) pa_nil)))))
        (pss_one (ps_ret pe_bl))
        pss_nil)
      (pss_cons (ps_if (pt_not (pt_val (pe_clG c__law_same hG hr (by decide) (by rfl) (pa_cons (pe_cl c_latest hr (by decide) (by rfl) (pa_cons (pv 6) (pa_cons (pv 7) (pa_cons (pv 11) (pa_cons (pv 13) pa_nil))))) (pa_cons (pv 15) pa_nil)))))
        (pss_one (ps_ret pe_bl))
        pss_nil)
      (pss_one (ps_if (pt_cmpR op_notN (pv 14) pe_non (nomark _))
        (pss_cons (ps_set (i := 19) sc_law.nd rfl (Or.inl rfl) (pe_cl c__law_take hr (by decide) (by rfl) (pa_cons (pv 1) (pa_cons pe_int pa_nil))))
      (pss_cons (ps_set (i := 20) sc_law.nd rfl (Or.inl rfl) (pe_op op_add (pv 14) (pe_op op_mul (pe_ix (ixT (K := K) rfl) (pv 8) pe_int (fun _ _ => rfl)) (pv 19))))
      (pss_one (ps_if (pt_not (pt_val (pe_clG c__law_same hG hr (by decide) (by rfl) (pa_cons (pe_cl c_settles hr (by decide) (by rfl) (pa_cons (pv 6) (pa_cons (pv 7) (pa_cons (pv 14) (pa_cons pe_bl (pa_cons (pv 19) pa_nil)))))) (pa_cons (pe_ifExp (pt_cmpR op_le (pv 20) pe_int (nomark _)) (pv 20) pe_non) pa_nil)))))
        (pss_one (ps_ret pe_bl))
        pss_nil))))
        pss_nil))))))))
      (pss_cons (ps_set (i := 5) sc_law.nd rfl (Or.inr rfl) (pe_cl c__law_pick hr (by decide) (by rfl) (pa_cons (pv 1) (pa_cons (pv 7) pa_nil))))
      (pss_cons (ps_set (i := 21) sc_law.nd rfl (Or.inl rfl) (pe_lstRg3 rfl (by rfl) T.list (by rfl) T.range (pa_cons (pe_ix (ixT (K := K) rfl) (pe_dget hu (pv 4) (pv 5) (fun _ _ => rfl)) pe_int (fun _ _ => rfl)) (pa_cons pe_int (pa_cons (pe_ix (ixT (K := K) rfl) (pe_dget hu (pv 4) (pv 5) (fun _ _ => rfl)) pe_int (fun _ _ => rfl)) pa_nil)))))
      (pss_cons (ps_set (i := 22) sc_law.nd rfl (Or.inr rfl) (pe_cl c__law_pick hr (by decide) (by rfl) (pa_cons (pv 1) (pa_cons (pv 21) pa_nil))))
      (pss_cons (ps_set (i := 23) sc_law.nd rfl (Or.inr rfl) (pe_cl c_closed hr (by decide) (by rfl) (pa_cons (pv 6) (pa_cons (pv 5) (pa_cons (pv 22) pa_nil)))))
      (pss_cons (ps_if (pt_not (pt_val (pe_clG c__law_same hG hr (by decide) (by rfl) (pa_cons (pe_lst (pa_cons (pe_cl c_open_days hr (by decide) (by rfl) (pa_cons (pv 23) (pa_cons (pe_tup (pa_cons (pv 5) pa_nil)) pa_nil))) (pa_cons (pe_cl c_open_days hr (by decide) (by rfl) (pa_cons (pv 23) (pa_cons (pv 7) pa_nil))) pa_nil))) (pa_cons (pe_lst (pa_cons (pe_callTy (crTup (K := K) rfl) (by rfl) T.tuple (by decide +kernel) (pa_cons (pe_lc (own := [("day", 11)]) rfl sc_law.nd (piLst (K := K) rfl (pv 21)) (blkOk_by (own := [("day", 11)]) (N := N_law) (sc := defScope s_law) (by decide +kernel)) (fun _ _ _ _ _ => (pg_name (i := 11) sc_law.nd rfl (Or.inl rfl))) (fun _ _ _ _ _ => pts_one (pt_cmpR op_ne (pv 11) (pv 22) (nomark _))) (fun _ _ _ _ _ => (pv 11))) pa_nil)) (pa_cons (pe_callTy (crTup (K := K) rfl) (by rfl) T.tuple (by decide +kernel) (pa_cons (pe_lc (own := [("day", 11)]) rfl sc_law.nd (piTup (K := K) rfl (pv 9)) (blkOk_by (own := [("day", 11)]) (N := N_law) (sc := defScope s_law) (by decide +kernel)) (fun _ _ _ _ _ => (pg_name (i := 11) sc_law.nd rfl (Or.inl rfl))) (fun _ _ _ _ _ => pts_one (pt_cmpR op_ne (pv 11) (pv 22) (nomark _))) (fun _ _ _ _ _ => (pv 11))) pa_nil)) pa_nil))) pa_nil)))))
        (pss_one (ps_ret pe_bl))
        pss_nil)
      (pss_cons (ps_if (PW.pt (pw_and (pt_cmpR (opInS (K := K) rfl) (pv 22) (pv 9) (by rfl)) (pw_and1 (pt_cmpR op_ne (pe_ix (ixT (K := K) rfl) (pv 9) (pe_un un_neg pe_int) (fun _ _ => rfl)) (pv 22) (nomark _)))))
        (pss_one (ps_if (pt_not (pt_val (pe_clG c__law_same hG hr (by decide) (by rfl) (pa_cons (pe_cl c_settles hr (by decide) (by rfl) (pa_cons (pv 23) (pa_cons (pv 7) (pa_cons (pv 22) (pa_cons pe_bl (pa_cons pe_int pa_nil)))))) (pa_cons (pe_op op_add (pv 22) (pe_ix (ixT (K := K) rfl) (pv 8) pe_int (fun _ _ => rfl))) pa_nil)))))
        (pss_one (ps_ret pe_bl))
        pss_nil))
        pss_nil)
      (pss_one (ps_if (pt_not (pt_val (pe_callB (call_isO NT.cls NT.one) (by rfl) T.isinstance (by decide +kernel) (pa_cons (LamX.pe_lamcall (T := [(PT, lamQ)]) rfl gCau kCau lkCau hcCau bCau sc__law_caught rfl (Or.inl rfl) (caught_gives NT) TB rfl (by rw [List.mem_singleton]; rfl) (fun p hp _ => by rw [List.mem_singleton] at hp; rw [hp]; rfl) hr (LamX.lamS_by (sc := defScope s_law) (by decide +kernel)) rfl (fun _ _ _ _ _ => rfl) (fun A2 outer2 s2 H2 E2 f2 c2 hr2 => pe_call FX hr2 rfl gClo kClo bClo .nil (passes_call (takes_of rfl rfl rfl rfl) (fun _ _ _ _ z => z)) (pa_cons (pv 23) (pa_cons (pv 5) (pa_cons (pv 22) pa_nil))))) (pa_cons (pe_glob (v := .ref C) (by rfl) NT.gC rfl) pa_nil)))))
        (pss_one (ps_ret pe_bl))
        pss_nil))))))))))))))))))
      (pss_one (ps_ret pe_bl)))), ?_⟩
  obtain ⟨s0, ns, rfl, hS, hlen, hPT, q⟩ := hsp
  exact law_sem hS hlen hPT q
end
end N56
namespace N56
open PySem PySem.Spec PyProof.Rows L2
/-! ### the end: law called where nothing is being shown, its lambda's table empty -/
abbrev oTab : Obj := { cls := .none, data := .fields #[] }
abbrev oScr (vs : List Value) : Obj := { cls := .type "list", data := .seq vs.toArray }
/-- what is tracked at the call: the table, and the script where it is none of the module's own objects -/
def atCall (PT a : Addr) (own : Bool) (vs : List Value) (ns : List Int) : Hp := fun b => if b = PT then some (.tbl #[]) else if own = true ∧ b = a then some (.frz (oScr vs) (.lst (ns.map V.int))) else none
theorem law_end {P : Program} {w : World} {K : PySem.W.Frag} {mg mb : Str → Option Value} {fa a cL PT : Addr} {s₁ : Shared} {vs : List Value} {ns : List Int} (KX : K.In s₁.heap) (nsG : s₁.heap.Ns mainGlobals mg) (nsB : s₁.heap.Ns builtinsNs mb)
    (boot : ∀ x : Str, x ≠ "__name__" → mb x = bootBuiltins x) (noLim : s₁.heap.NoLimit) (noGen : s₁.gens = #[]) (hT : s₁.heap.get? PT = some oTab) (nT : K.lookup PT = none) (hC : PySem.W.CodeHd s₁.heap cL PT)
    (mainB : ∃ (bm : Addr) (ob : Obj), mg "__builtins__" = some (.ref bm) ∧ bm ≠ builtinsNs ∧ s₁.heap.get? bm = some ob ∧ ob.cls = .type "module" ∧ ob.dict = some builtinsNs ∧ ob.data = .plain)
    (hA : s₁.heap.get? a = some (oScr vs)) (hin : IntsAre vs ns) (len : ns.length ≤ sizeLine)
    (run : ∀ (base : Heap) (H : Hp), K.In base → base.Ns mainGlobals mg → LamX.TabB base mg cL PT → Env0 P w K mg base callerA [] s₁ H → H PT = some (.tbl #[]) → SqL K H a (ns.map V.int) →
      codeAny (model P w) callerA (.call (.ref fa) ⟨[.ref a], []⟩) (CR C8.CX0 [] P w H s₁ (fun v _ => v = .bl true) C8.E0) s₁) :
    codeAny (model P w) callerA (.call (.ref fa) ⟨[.ref a], []⟩) (fun r s' => r = .ok (.ret (.bool true)) ∧ OldK s₁.heap s'.heap ∧ s'.os = s₁.os ∧ AllBare s'.gens) s₁ := by
  have vals := vals_ints hin
  have lenV := hin.length
  have apart : a ≠ PT := fun e => by
    rw [e, hT] at hA
    cases hA
  obtain ⟨own, hown⟩ : ∃ own : Bool, own = (K.lookup a).isNone := ⟨_, rfl⟩
  generalize hH : atCall PT a own vs ns = H
  have H_T : H PT = some (.tbl #[]) := by
    rw [← hH]
    exact if_pos rfl
  have H_A : own = true → H a = some (.frz (oScr vs) (.lst (ns.map V.int))) := fun h => by
    rw [← hH]
    show (if a = PT then _ else _) = _
    rw [if_neg apart, if_pos ⟨h, rfl⟩]
  have cases_H : ∀ b u, H b = some u → (b = PT ∧ u = .tbl #[]) ∨ (b = a ∧ own = true ∧ u = .frz (oScr vs) (.lst (ns.map V.int))) := fun b u e => by
    rw [← hH] at e
    unfold atCall at e
    by_cases h1 : b = PT
    · rw [if_pos h1] at e
      exact Or.inl ⟨h1, (Option.some.inj e).symm⟩
    · rw [if_neg h1] at e
      by_cases h2 : own = true ∧ b = a
      · rw [if_pos h2] at e
        exact Or.inr ⟨h2.2, h2.1, (Option.some.inj e).symm⟩
      · rw [if_neg h2] at e
        cases e
  -- an object that is neither the table's nor a list is not tracked
  have free : ∀ b o, s₁.heap.get? b = some o → o.data ≠ .fields #[] → (∀ xs n, o.data ≠ .seq xs n) → H b = none := fun b o e d1 d2 => by
    cases q : H b with
    | none => rfl
    | some u =>
      exfalso
      rcases cases_H b u q with ⟨h, _⟩ | ⟨h, _, _⟩
      · rw [h, hT] at e
        cases e
        exact d1 rfl
      · rw [h, hA] at e
        cases e
        exact d2 _ _ rfl
  have kept : ∀ b o, s₁.heap.get? b = some o → o.data ≠ .fields #[] → (∀ xs n, o.data ≠ .seq xs n) → (hidT s₁.heap H).get? b = some o := fun b o e d1 d2 => hidT_get e (free b o e d1 d2)
  have keptNs : ∀ {b : Addr} {m : Str → Option Value}, s₁.heap.Ns b m → (hidT s₁.heap H).Ns b m := fun {b m} h => by
    obtain ⟨o, es, ep, e, d, r⟩ := h
    exact ⟨o, es, ep, kept b o e (by rw [d]; intro z; cases z) (fun xs n => by rw [d]; intro z; cases z), d, r⟩
  have KB : K.In (hidT s₁.heap H) := fun b o e => hidT_get (KX b o e) (by
    cases q : H b with
    | none => rfl
    | some u =>
      exfalso
      rcases cases_H b u q with ⟨h, _⟩ | ⟨h, ho, _⟩
      · rw [h, nT] at e
        cases e
      · rw [h] at e
        rw [hown, e] at ho
        cases ho)
  have M : L2.Mod K mg (hidT s₁.heap H) := by
    obtain ⟨mc, l1, l2⟩ := noLim
    exact ⟨KB, keptNs nsG, ⟨mb, keptNs nsB, boot⟩, ⟨mc, keptNs l1, l2⟩⟩
  have gT : mainGlobals ≠ PT := fun e => by
    obtain ⟨o, es, ep, h1, h2, _⟩ := nsG
    rw [e, hT] at h1
    cases h1
    cases h2
  have TB : LamX.TabB (hidT s₁.heap H) mg cL PT := by
    refine ⟨?_, ?_, gT⟩
    · obtain ⟨o, us, file, tf, flags, tg, inF, text, tt, e1, r1, r2, r3, rest⟩ := hC
      refine ⟨o, us, file, tf, flags, tg, inF, text, tt, kept cL o e1 (fun z => ?_) (fun xs n => by rw [r2]; intro z; cases z), r1, r2, r3, rest⟩
      rw [r2] at z
      cases z
      cases r3
    · obtain ⟨bm, ob, b1, b2, b3, b4, b5, b6⟩ := mainB
      refine ⟨bm, ob, b1, b2, fun e => ?_, fun e => ?_, kept bm ob b3 (by rw [b6]; intro z; cases z) (fun xs n => by rw [b6]; intro z; cases z), b4, b5, b6⟩
      · obtain ⟨o, es, ep, h1, h2, _⟩ := nsG
        rw [← e, b3] at h1
        cases h1
        rw [b6] at h2
        cases h2
      · rw [e, hT] at b3
        cases b3
        cases b6
  have scr : SqL K H a (ns.map V.int) := by
    cases q : K.lookup a with
    | none => exact Or.inl (Or.inr ⟨_, H_A (by rw [hown, q]; rfl)⟩)
    | some o =>
      have e := KX a o q
      rw [hA] at e
      cases e
      exact Or.inr ⟨_, vs.toArray, _, q, rfl, rfl, rfl, by rw [List.size_toArray, lenV]; exact len, by simpa using vals⟩
  have ok : HOk P w H s₁.heap := fun b u e => by
    rcases cases_H b u e with ⟨h, rfl⟩ | ⟨h, _, rfl⟩
    · rw [h]
      exact hT
    · rw [h]
      exact ⟨hA, by rw [List.length_map]; exact len, vs, _, vals, hA⟩
  have env : Env0 P w K mg (hidT s₁.heap H) callerA [] s₁ H :=
    { frames := rfl, mod := M, bs := fun b o e => of_hidT e, bsz := Nat.le_of_eq (hidT_size _ _), funs := trivial, frf := fun b hb => absurd (show b ∈ ([] : List Addr) from hb) (by simp), hok := ok, bare := .of_eq noGen }
  refine codeAny_mono (run _ H KB (keptNs nsG) TB env H_T scr) fun r s' h => ?_
  match r, h with
  | .error e, h => exact h.elim
  | .ok .next, h => exact h.elim
  | .ok .brk, h => exact h.elim
  | .ok .cont, h => exact h.elim
  | .ok (.ret u), h =>
    obtain ⟨v, H', os, bare, un, ok', rv, rfl⟩ := h
    obtain rfl : u = Value.bool true := rv
    have same : ∀ b o, b ≠ PT → s₁.heap.get? b = some o → s'.heap.get? b = some o := fun b o nb e => by
      cases q : H b with
      | none => exact un.keep b o e q (fun z => absurd (show b ∈ ([] : List Addr) from z) (by simp)) (fun z => nomatch z)
      | some u =>
        rcases cases_H b u q with ⟨h, _⟩ | ⟨_, _, rfl⟩
        · exact absurd h nb
        · have z2 := un.frzs b _ _ q
          obtain ⟨e1, _⟩ := ok b _ q
          obtain ⟨e2, _⟩ := ok' b _ z2
          rw [e] at e1
          cases e1
          exact e2
    obtain ⟨more, hm⟩ := un.tbls PT #[] H_T
    have grown : s'.heap.get? PT = some { cls := .none, data := .fields (#[] ++ more) } := ok' PT _ hm
    refine ⟨rfl, ⟨fun b o e => ?_, fun b o e => ?_⟩, os, bare⟩
    · by_cases hb : b = PT
      · subst hb
        rw [hT] at e
        cases e
        exact Or.inr (Or.inl ⟨(hC.tab hT).isCodeTable, rfl, #[], more, rfl, grown⟩)
      · exact Or.inl (same b o hb e)
    · by_cases hb : b = PT
      · subst hb
        exact ⟨_, grown⟩
      · exact ⟨o, same b o hb e⟩
end N56
namespace N56
open PySem PySem.Spec PyProof.Rows L2 Evl
theorem kb_settles {K : PySem.W.Frag} {f : Addr} {fd : FuncData} (F : Fun K "settles" "settles" s_settles f fd) : KBinds K fd ["calendar", "currencies", "day", "late", "lag"] ["lag", "late", "day", "currencies", "calendar"] gSet gSetV := by
  obtain ⟨oc, od, kV, doc, pm, an, cdv, ct, osl, rfl, lk, hcd⟩ := F.ex
  refine ⟨fun s us ws _ hl => ?_, gSet_rel⟩
  match us, ws, hl with
  | [], [_, _, _, _, _], _ => exact .of_eq rfl
  | [], [], hl => cases hl
  | [], [_], hl => cases hl
  | [], [_, _], hl => cases hl
  | [], [_, _, _], hl => cases hl
  | [], [_, _, _, _], hl => cases hl
  | [], _ :: _ :: _ :: _ :: _ :: _ :: _, hl => cases hl
  | _ :: _, _, hl => cases hl
/-- what law keeps, at every state in which it is called -/
def LawRuns (P : Program) (w : World) (K : PySem.W.Frag) (mg : Str → Option Value) (fa cL PT : Addr) : Prop := ∀ (base : Heap) (H : Hp) (s : Shared) (a : Addr) (ns : List Int), K.In base → base.Ns mainGlobals mg → LamX.TabB base mg cL PT → Env0 P w K mg base callerA [] s H → H PT = some (.tbl #[]) → SqL K H a (ns.map V.int) → ns.length ≤ 63 →
  codeAny (model P w) callerA (.call (.ref fa) ⟨[.ref a], []⟩) (CR C8.CX0 [] P w H s (fun v _ => v = .bl true) C8.E0) s
structure LawAt (P : Program) (w : World) (K : PySem.W.Frag) (mg : Str → Option Value) (fa : Addr) : Prop where
  ex : ∃ (cL PT : Addr) (fd : FuncData) (oc : Value) (od : Option Addr) (osl : Array (Option Value)) (ec : Value) (dc : Option Addr) (vs : Array Value) (sl : Array (Option Value)), K.lookup fa = some ⟨oc, od, .func fd, osl⟩ ∧ fd.code = .ref cL ∧
    K.lookup cL = some ⟨ec, dc, .fields vs, sl⟩ ∧ vs[11]? = some (.ref PT) ∧ K.lookup PT = none ∧ LawRuns P w K mg fa cL PT
theorem all_mk {P : Program} {w : World} {K : PySem.W.Frag} {h : Heap} {mg : Str → Option Value} {fa cL PT aK C DE : Addr} (X : K.In h) (G : h.Ns mainGlobals mg) (hfa : mg "law" = some (.ref fa))
    {f0 : Addr} {od0 an0 : Option Addr} {sl0 : Array (Option Value)} {oc0 kV0 dc0 pm0 ct0 cd0 : Value}
    {f1 : Addr} {od1 an1 : Option Addr} {sl1 : Array (Option Value)} {oc1 kV1 dc1 pm1 ct1 cd1 : Value}
    {f2 : Addr} {od2 an2 : Option Addr} {sl2 : Array (Option Value)} {oc2 kV2 dc2 pm2 ct2 cd2 : Value}
    {f3 : Addr} {od3 an3 : Option Addr} {sl3 : Array (Option Value)} {oc3 kV3 dc3 pm3 ct3 cd3 : Value}
    {f4 : Addr} {od4 an4 : Option Addr} {sl4 : Array (Option Value)} {oc4 kV4 dc4 pm4 ct4 cd4 : Value}
    {f5 : Addr} {od5 an5 : Option Addr} {sl5 : Array (Option Value)} {oc5 kV5 dc5 pm5 ct5 cd5 : Value}
    {f6 : Addr} {od6 an6 : Option Addr} {sl6 : Array (Option Value)} {oc6 kV6 dc6 pm6 ct6 cd6 : Value}
    {f7 : Addr} {od7 an7 : Option Addr} {sl7 : Array (Option Value)} {oc7 kV7 dc7 pm7 ct7 cd7 : Value}
    {f8 : Addr} {od8 an8 : Option Addr} {sl8 : Array (Option Value)} {oc8 kV8 dc8 pm8 ct8 cd8 : Value}
    {f9 : Addr} {od9 an9 : Option Addr} {sl9 : Array (Option Value)} {oc9 kV9 dc9 pm9 ct9 cd9 : Value}
    {f10 : Addr} {od10 an10 : Option Addr} {sl10 : Array (Option Value)} {oc10 kV10 dc10 pm10 ct10 cd10 : Value}
    {f11 : Addr} {od11 an11 : Option Addr} {sl11 : Array (Option Value)} {oc11 kV11 dc11 pm11 ct11 cd11 : Value}
    {f12 : Addr} {od12 an12 : Option Addr} {sl12 : Array (Option Value)} {oc12 kV12 dc12 pm12 ct12 cd12 : Value}
    {f13 : Addr} {od13 an13 : Option Addr} {sl13 : Array (Option Value)} {oc13 kV13 dc13 pm13 ct13 cd13 : Value}
    {f14 : Addr} {od14 an14 : Option Addr} {sl14 : Array (Option Value)} {oc14 kV14 dc14 pm14 ct14 cd14 : Value}
    {f15 : Addr} {od15 an15 : Option Addr} {sl15 : Array (Option Value)} {oc15 kV15 dc15 pm15 ct15 cd15 : Value}
    {f16 : Addr} {od16 an16 : Option Addr} {sl16 : Array (Option Value)} {oc16 kV16 dc16 pm16 ct16 cd16 : Value}
    {f17 : Addr} {od17 an17 : Option Addr} {sl17 : Array (Option Value)} {oc17 kV17 dc17 pm17 ct17 cd17 : Value}
    {f18 : Addr} {od18 an18 : Option Addr} {sl18 : Array (Option Value)} {oc18 kV18 dc18 pm18 ct18 cd18 : Value}
    {f19 : Addr} {od19 an19 : Option Addr} {sl19 : Array (Option Value)} {oc19 kV19 dc19 pm19 ct19 cd19 : Value}
    {f20 : Addr} {od20 an20 : Option Addr} {sl20 : Array (Option Value)} {oc20 kV20 dc20 pm20 ct20 cd20 : Value}
    {f21 : Addr} {od21 an21 : Option Addr} {sl21 : Array (Option Value)} {oc21 kV21 dc21 pm21 ct21 cd21 : Value}
    {f22 : Addr} {od22 an22 : Option Addr} {sl22 : Array (Option Value)} {oc22 kV22 dc22 pm22 ct22 cd22 : Value}
    {f23 : Addr} {od23 an23 : Option Addr} {sl23 : Array (Option Value)} {oc23 kV23 dc23 pm23 ct23 cd23 : Value}
    {f24 : Addr} {od24 an24 : Option Addr} {sl24 : Array (Option Value)} {oc24 kV24 dc24 pm24 ct24 : Value}
    {ec : Value} {dcl : Option Addr} {vsC : Array Value} {slC : Array (Option Value)} {dK : Option Addr} {itsK : Array Value} {nK : Nat} {slK : Array (Option Value)} {tL : Tok}
    (a0 : PySem.W.nsIn K mainGlobals "is_name" = some (some (.ref f0))) (l0 : K.lookup f0 = some ⟨oc0, od0, .func (PySem.W.fnOf "is_name" "is_name" (defArgs s_is_name) (defBody s_is_name) (defScope s_is_name) .none kV0 dc0 pm0 an0 cd0 ct0), sl0⟩) (c0 : PySem.W.codeIn K cd0 "is_name" = true) (k0 : PySem.W.keepIn K (.ref f0) = true)
    (a1 : PySem.W.nsIn K mainGlobals "is_rising" = some (some (.ref f1))) (l1 : K.lookup f1 = some ⟨oc1, od1, .func (PySem.W.fnOf "is_rising" "is_rising" (defArgs s_is_rising) (defBody s_is_rising) (defScope s_is_rising) .none kV1 dc1 pm1 an1 cd1 ct1), sl1⟩) (c1 : PySem.W.codeIn K cd1 "is_rising" = true) (k1 : PySem.W.keepIn K (.ref f1) = true)
    (a2 : PySem.W.nsIn K mainGlobals "is_currencies" = some (some (.ref f2))) (l2 : K.lookup f2 = some ⟨oc2, od2, .func (PySem.W.fnOf "is_currencies" "is_currencies" (defArgs s_is_currencies) (defBody s_is_currencies) (defScope s_is_currencies) .none kV2 dc2 pm2 an2 cd2 ct2), sl2⟩) (c2 : PySem.W.codeIn K cd2 "is_currencies" = true) (k2 : PySem.W.keepIn K (.ref f2) = true)
    (a3 : PySem.W.nsIn K mainGlobals "is_number" = some (some (.ref f3))) (l3 : K.lookup f3 = some ⟨oc3, od3, .func (PySem.W.fnOf "is_number" "is_number" (defArgs s_is_number) (defBody s_is_number) (defScope s_is_number) .none kV3 dc3 pm3 an3 cd3 ct3), sl3⟩) (c3 : PySem.W.codeIn K cd3 "is_number" = true) (k3 : PySem.W.keepIn K (.ref f3) = true)
    (a4 : PySem.W.nsIn K mainGlobals "is_day" = some (some (.ref f4))) (l4 : K.lookup f4 = some ⟨oc4, od4, .func (PySem.W.fnOf "is_day" "is_day" (defArgs s_is_day) (defBody s_is_day) (defScope s_is_day) .none kV4 dc4 pm4 an4 cd4 ct4), sl4⟩) (c4 : PySem.W.codeIn K cd4 "is_day" = true) (k4 : PySem.W.keepIn K (.ref f4) = true)
    (a5 : PySem.W.nsIn K mainGlobals "is_row" = some (some (.ref f5))) (l5 : K.lookup f5 = some ⟨oc5, od5, .func (PySem.W.fnOf "is_row" "is_row" (defArgs s_is_row) (defBody s_is_row) (defScope s_is_row) .none kV5 dc5 pm5 an5 cd5 ct5), sl5⟩) (c5 : PySem.W.codeIn K cd5 "is_row" = true) (k5 : PySem.W.keepIn K (.ref f5) = true)
    (a6 : PySem.W.nsIn K mainGlobals "is_calendar" = some (some (.ref f6))) (l6 : K.lookup f6 = some ⟨oc6, od6, .func (PySem.W.fnOf "is_calendar" "is_calendar" (defArgs s_is_calendar) (defBody s_is_calendar) (defScope s_is_calendar) .none kV6 dc6 pm6 an6 cd6 ct6), sl6⟩) (c6 : PySem.W.codeIn K cd6 "is_calendar" = true) (k6 : PySem.W.keepIn K (.ref f6) = true)
    (a7 : PySem.W.nsIn K mainGlobals "check_days" = some (some (.ref f7))) (l7 : K.lookup f7 = some ⟨oc7, od7, .func (PySem.W.fnOf "check_days" "check_days" (defArgs s_check_days) (defBody s_check_days) (defScope s_check_days) .none kV7 dc7 pm7 an7 cd7 ct7), sl7⟩) (c7 : PySem.W.codeIn K cd7 "check_days" = true) (k7 : PySem.W.keepIn K (.ref f7) = true)
    (a8 : PySem.W.nsIn K mainGlobals "common_days" = some (some (.ref f8))) (l8 : K.lookup f8 = some ⟨oc8, od8, .func (PySem.W.fnOf "common_days" "common_days" (defArgs s_common_days) (defBody s_common_days) (defScope s_common_days) .none kV8 dc8 pm8 an8 cd8 ct8), sl8⟩) (c8 : PySem.W.codeIn K cd8 "common_days" = true) (k8 : PySem.W.keepIn K (.ref f8) = true)
    (a9 : PySem.W.nsIn K mainGlobals "open_days" = some (some (.ref f9))) (l9 : K.lookup f9 = some ⟨oc9, od9, .func (PySem.W.fnOf "open_days" "open_days" (defArgs s_open_days) (defBody s_open_days) (defScope s_open_days) .none kV9 dc9 pm9 an9 cd9 ct9), sl9⟩) (c9 : PySem.W.codeIn K cd9 "open_days" = true) (k9 : PySem.W.keepIn K (.ref f9) = true)
    (a10 : PySem.W.nsIn K mainGlobals "day_of" = some (some (.ref f10))) (l10 : K.lookup f10 = some ⟨oc10, od10, .func (PySem.W.fnOf "day_of" "day_of" (defArgs s_day_of) (defBody s_day_of) (defScope s_day_of) .none kV10 dc10 pm10 an10 cd10 ct10), sl10⟩) (c10 : PySem.W.codeIn K cd10 "day_of" = true) (k10 : PySem.W.keepIn K (.ref f10) = true)
    (a11 : PySem.W.nsIn K mainGlobals "check_lag" = some (some (.ref f11))) (l11 : K.lookup f11 = some ⟨oc11, od11, .func (PySem.W.fnOf "check_lag" "check_lag" (defArgs s_check_lag) (defBody s_check_lag) (defScope s_check_lag) .none kV11 dc11 pm11 an11 cd11 ct11), sl11⟩) (c11 : PySem.W.codeIn K cd11 "check_lag" = true) (k11 : PySem.W.keepIn K (.ref f11) = true)
    (a12 : PySem.W.nsIn K mainGlobals "settles" = some (some (.ref f12))) (l12 : K.lookup f12 = some ⟨oc12, od12, .func (PySem.W.fnOf "settles" "settles" (defArgs s_settles) (defBody s_settles) (defScope s_settles) .none kV12 dc12 pm12 an12 cd12 ct12), sl12⟩) (c12 : PySem.W.codeIn K cd12 "settles" = true) (k12 : PySem.W.keepIn K (.ref f12) = true)
    (a13 : PySem.W.nsIn K mainGlobals "latest" = some (some (.ref f13))) (l13 : K.lookup f13 = some ⟨oc13, od13, .func (PySem.W.fnOf "latest" "latest" (defArgs s_latest) (defBody s_latest) (defScope s_latest) .none kV13 dc13 pm13 an13 cd13 ct13), sl13⟩) (c13 : PySem.W.codeIn K cd13 "latest" = true) (k13 : PySem.W.keepIn K (.ref f13) = true)
    (a14 : PySem.W.nsIn K mainGlobals "closed" = some (some (.ref f14))) (l14 : K.lookup f14 = some ⟨oc14, od14, .func (PySem.W.fnOf "closed" "closed" (defArgs s_closed) (defBody s_closed) (defScope s_closed) .none kV14 dc14 pm14 an14 cd14 ct14), sl14⟩) (c14 : PySem.W.codeIn K cd14 "closed" = true) (k14 : PySem.W.keepIn K (.ref f14) = true)
    (a15 : PySem.W.nsIn K mainGlobals "_law_begun" = some (some (.ref f15))) (l15 : K.lookup f15 = some ⟨oc15, od15, .func (PySem.W.fnOf "_law_begun" "_law_begun" (defArgs s__law_begun) (defBody s__law_begun) (defScope s__law_begun) .none kV15 dc15 pm15 an15 cd15 ct15), sl15⟩) (c15 : PySem.W.codeIn K cd15 "_law_begun" = true) (k15 : PySem.W.keepIn K (.ref f15) = true)
    (a16 : PySem.W.nsIn K mainGlobals "_law_blend" = some (some (.ref f16))) (l16 : K.lookup f16 = some ⟨oc16, od16, .func (PySem.W.fnOf "_law_blend" "_law_blend" (defArgs s__law_blend) (defBody s__law_blend) (defScope s__law_blend) .none kV16 dc16 pm16 an16 cd16 ct16), sl16⟩) (c16 : PySem.W.codeIn K cd16 "_law_blend" = true) (k16 : PySem.W.keepIn K (.ref f16) = true)
    (a17 : PySem.W.nsIn K mainGlobals "_law_take" = some (some (.ref f17))) (l17 : K.lookup f17 = some ⟨oc17, od17, .func (PySem.W.fnOf "_law_take" "_law_take" (defArgs s__law_take) (defBody s__law_take) (defScope s__law_take) .none kV17 dc17 pm17 an17 cd17 ct17), sl17⟩) (c17 : PySem.W.codeIn K cd17 "_law_take" = true) (k17 : PySem.W.keepIn K (.ref f17) = true)
    (a18 : PySem.W.nsIn K mainGlobals "_law_pick" = some (some (.ref f18))) (l18 : K.lookup f18 = some ⟨oc18, od18, .func (PySem.W.fnOf "_law_pick" "_law_pick" (defArgs s__law_pick) (defBody s__law_pick) (defScope s__law_pick) .none kV18 dc18 pm18 an18 cd18 ct18), sl18⟩) (c18 : PySem.W.codeIn K cd18 "_law_pick" = true) (k18 : PySem.W.keepIn K (.ref f18) = true)
    (a19 : PySem.W.nsIn K mainGlobals "_law_shuffled" = some (some (.ref f19))) (l19 : K.lookup f19 = some ⟨oc19, od19, .func (PySem.W.fnOf "_law_shuffled" "_law_shuffled" (defArgs s__law_shuffled) (defBody s__law_shuffled) (defScope s__law_shuffled) .none kV19 dc19 pm19 an19 cd19 ct19), sl19⟩) (c19 : PySem.W.codeIn K cd19 "_law_shuffled" = true) (k19 : PySem.W.keepIn K (.ref f19) = true)
    (a20 : PySem.W.nsIn K mainGlobals "_law_same" = some (some (.ref f20))) (l20 : K.lookup f20 = some ⟨oc20, od20, .func (PySem.W.fnOf "_law_same" "_law_same" (defArgs s__law_same) (defBody s__law_same) (defScope s__law_same) .none kV20 dc20 pm20 an20 cd20 ct20), sl20⟩) (c20 : PySem.W.codeIn K cd20 "_law_same" = true) (k20 : PySem.W.keepIn K (.ref f20) = true)
    (a21 : PySem.W.nsIn K mainGlobals "_law_caught" = some (some (.ref f21))) (l21 : K.lookup f21 = some ⟨oc21, od21, .func (PySem.W.fnOf "_law_caught" "_law_caught" (defArgs s__law_caught) (defBody s__law_caught) (defScope s__law_caught) .none kV21 dc21 pm21 an21 cd21 ct21), sl21⟩) (c21 : PySem.W.codeIn K cd21 "_law_caught" = true) (k21 : PySem.W.keepIn K (.ref f21) = true)
    (a22 : PySem.W.nsIn K mainGlobals "_law_names" = some (some (.ref f22))) (l22 : K.lookup f22 = some ⟨oc22, od22, .func (PySem.W.fnOf "_law_names" "_law_names" (defArgs s__law_names) (defBody s__law_names) (defScope s__law_names) .none kV22 dc22 pm22 an22 cd22 ct22), sl22⟩) (c22 : PySem.W.codeIn K cd22 "_law_names" = true) (k22 : PySem.W.keepIn K (.ref f22) = true)
    (a23 : PySem.W.nsIn K mainGlobals "_law_common" = some (some (.ref f23))) (l23 : K.lookup f23 = some ⟨oc23, od23, .func (PySem.W.fnOf "_law_common" "_law_common" (defArgs s__law_common) (defBody s__law_common) (defScope s__law_common) .none kV23 dc23 pm23 an23 cd23 ct23), sl23⟩) (c23 : PySem.W.codeIn K cd23 "_law_common" = true) (k23 : PySem.W.keepIn K (.ref f23) = true)
    (a24 : PySem.W.nsIn K mainGlobals "law" = some (some (.ref f24))) (l24 : K.lookup f24 = some ⟨oc24, od24, .func (PySem.W.fnOf "law" "law" (defArgs s_law) (defBody s_law) (defScope s_law) .none kV24 dc24 pm24 an24 (.ref cL) ct24), sl24⟩) (c24 : PySem.W.codeIn K (.ref cL) "law" = true) (k24 : PySem.W.keepIn K (.ref f24) = true)
    (z_len : PySem.W.nsIn K mainGlobals "len" = some none)
    (z_isinstance : PySem.W.nsIn K mainGlobals "isinstance" = some none)
    (z_all : PySem.W.nsIn K mainGlobals "all" = some none)
    (z_tuple : PySem.W.nsIn K mainGlobals "tuple" = some none)
    (z_dict : PySem.W.nsIn K mainGlobals "dict" = some none)
    (z_range : PySem.W.nsIn K mainGlobals "range" = some none)
    (z_int : PySem.W.nsIn K mainGlobals "int" = some none)
    (z_str : PySem.W.nsIn K mainGlobals "str" = some none)
    (z_bool : PySem.W.nsIn K mainGlobals "bool" = some none)
    (z_list : PySem.W.nsIn K mainGlobals "list" = some none)
    (z_abs : PySem.W.nsIn K mainGlobals "abs" = some none)
    (z_min : PySem.W.nsIn K mainGlobals "min" = some none)
    (z_max : PySem.W.nsIn K mainGlobals "max" = some none)
    (z_repr : PySem.W.nsIn K mainGlobals "repr" = some none)
    (z_sorted : PySem.W.nsIn K mainGlobals "sorted" = some none)
    (lC : K.lookup cL = some ⟨ec, dcl, .fields vsC, slC⟩) (lP : vsC[11]? = some (.ref PT)) (nP : K.lookup PT = none)
    (aKEPT : PySem.W.nsIn K mainGlobals "KEPT" = some (some (.ref aK))) (lKEPT : K.lookup aK = some ⟨.type "tuple", dK, .seq itsK nK, slK⟩) (vKEPT : Vals (keptL.map V.str) itsK.toList) (aLETTERS : PySem.W.nsIn K mainGlobals "LETTERS" = some (some (.str lettersS tL)))
    (aC : PySem.W.nsIn K mainGlobals "NotOpen" = some (some (.ref C))) (aD : PySem.W.nsIn K mainGlobals "DeskError" = some (some (.ref DE))) (kC : PySem.W.keepIn K (.ref C) = true)
    (xC : PySem.W.excIn K C [.type "ValueError", .type "Exception", .type "BaseException", .type "object"] "ValueError.__new__" = true) (sC : PySem.W.subIn K (.ref C) (.type "BaseException") = some true) (tC : PySem.W.typeIn K (.ref C) = some (.type "type"))
    (sD : PySem.W.subIn K (.ref DE) (.type "BaseException") = some true) (hD : PySem.W.hasDictIn K DE = true) (tD : PySem.W.typeIn K (.ref DE) = some (.type "type")) (sCD : PySem.W.subIn K (.ref C) (.ref DE) = some true)
    (e1 : PySem.W.findIn K (.ref C) "__getattribute__" = some (some (.builtin "BaseException.__getattribute__"))) (e2 : PySem.W.findIn K (.ref C) "__getattr__" = some none) (e4 : PySem.W.hasDictIn K C = true) (e5 : PySem.W.findIn K (.ref C) "__class__" = some (some (.builtin "object.__class__")))
    (e6 : PySem.W.specialIn K (.builtin "object.__class__") "__get__" = some (some (.builtin "getset_descriptor.__get__"))) (e7 : PySem.W.takesIn K (.builtin "object.__class__") = some true) (e8 : PySem.W.mroIn K C (.type "object") = some true) :
    LawAt P w K mg fa := by
  have el := hfa.symm.trans (PySem.W.mg_of X G a24)
  cases el
  have F0 := fun_mk (st := s_is_name) l0 c0 k0
  have b0 := F0.binds (ps := ["thing"]) fun _ _ _ _ _ _ us hl => match us, hl with | [_], _ => rfl
  have g0 := PySem.W.mg_of X G a0
  have F1 := fun_mk (st := s_is_rising) l1 c1 k1
  have b1 := F1.binds (ps := ["items"]) fun _ _ _ _ _ _ us hl => match us, hl with | [_], _ => rfl
  have g1 := PySem.W.mg_of X G a1
  have F2 := fun_mk (st := s_is_currencies) l2 c2 k2
  have b2 := F2.binds (ps := ["thing"]) fun _ _ _ _ _ _ us hl => match us, hl with | [_], _ => rfl
  have g2 := PySem.W.mg_of X G a2
  have F3 := fun_mk (st := s_is_number) l3 c3 k3
  have b3 := F3.binds (ps := ["value"]) fun _ _ _ _ _ _ us hl => match us, hl with | [_], _ => rfl
  have g3 := PySem.W.mg_of X G a3
  have F4 := fun_mk (st := s_is_day) l4 c4 k4
  have b4 := F4.binds (ps := ["thing"]) fun _ _ _ _ _ _ us hl => match us, hl with | [_], _ => rfl
  have g4 := PySem.W.mg_of X G a4
  have F5 := fun_mk (st := s_is_row) l5 c5 k5
  have b5 := F5.binds (ps := ["thing"]) fun _ _ _ _ _ _ us hl => match us, hl with | [_], _ => rfl
  have g5 := PySem.W.mg_of X G a5
  have F6 := fun_mk (st := s_is_calendar) l6 c6 k6
  have b6 := F6.binds (ps := ["thing"]) fun _ _ _ _ _ _ us hl => match us, hl with | [_], _ => rfl
  have g6 := PySem.W.mg_of X G a6
  have F7 := fun_mk (st := s_check_days) l7 c7 k7
  have b7 := F7.binds (ps := ["calendar", "currencies"]) fun _ _ _ _ _ _ us hl => match us, hl with | [_, _], _ => rfl
  have g7 := PySem.W.mg_of X G a7
  have F8 := fun_mk (st := s_common_days) l8 c8 k8
  have b8 := F8.binds (ps := ["calendar", "currencies"]) fun _ _ _ _ _ _ us hl => match us, hl with | [_, _], _ => rfl
  have g8 := PySem.W.mg_of X G a8
  have F9 := fun_mk (st := s_open_days) l9 c9 k9
  have b9 := F9.binds (ps := ["calendar", "currencies"]) fun _ _ _ _ _ _ us hl => match us, hl with | [_, _], _ => rfl
  have g9 := PySem.W.mg_of X G a9
  have F10 := fun_mk (st := s_day_of) l10 c10 k10
  have b10 := F10.binds (ps := ["calendar", "currencies", "day", "late", "lag"]) fun _ _ _ _ _ _ us hl => match us, hl with | [_, _, _, _, _], _ => rfl
  have g10 := PySem.W.mg_of X G a10
  have F11 := fun_mk (st := s_check_lag) l11 c11 k11
  have b11 := F11.binds (ps := ["lag"]) fun _ _ _ _ _ _ us hl => match us, hl with | [_], _ => rfl
  have g11 := PySem.W.mg_of X G a11
  have F12 := fun_mk (st := s_settles) l12 c12 k12
  have b12 := F12.binds (ps := ["calendar", "currencies", "day", "late", "lag"]) fun _ _ _ _ _ _ us hl => match us, hl with | [_, _, _, _, _], _ => rfl
  have g12 := PySem.W.mg_of X G a12
  have F13 := fun_mk (st := s_latest) l13 c13 k13
  have b13 := F13.binds (ps := ["calendar", "currencies", "day", "lag"]) fun _ _ _ _ _ _ us hl => match us, hl with | [_, _, _, _], _ => rfl
  have g13 := PySem.W.mg_of X G a13
  have F14 := fun_mk (st := s_closed) l14 c14 k14
  have b14 := F14.binds (ps := ["calendar", "currency", "day"]) fun _ _ _ _ _ _ us hl => match us, hl with | [_, _, _], _ => rfl
  have g14 := PySem.W.mg_of X G a14
  have F15 := fun_mk (st := s__law_begun) l15 c15 k15
  have b15 := F15.binds (ps := ["script"]) fun _ _ _ _ _ _ us hl => match us, hl with | [_], _ => rfl
  have g15 := PySem.W.mg_of X G a15
  have F16 := fun_mk (st := s__law_blend) l16 c16 k16
  have b16 := F16.binds (ps := ["draw"]) fun _ _ _ _ _ _ us hl => match us, hl with | [_], _ => rfl
  have g16 := PySem.W.mg_of X G a16
  have F17 := fun_mk (st := s__law_take) l17 c17 k17
  have b17 := F17.binds (ps := ["draw", "size"]) fun _ _ _ _ _ _ us hl => match us, hl with | [_, _], _ => rfl
  have g17 := PySem.W.mg_of X G a17
  have F18 := fun_mk (st := s__law_pick) l18 c18 k18
  have b18 := F18.binds (ps := ["draw", "some"]) fun _ _ _ _ _ _ us hl => match us, hl with | [_, _], _ => rfl
  have g18 := PySem.W.mg_of X G a18
  have F19 := fun_mk (st := s__law_shuffled) l19 c19 k19
  have b19 := F19.binds (ps := ["draw", "some"]) fun _ _ _ _ _ _ us hl => match us, hl with | [_, _], _ => rfl
  have g19 := PySem.W.mg_of X G a19
  have F20 := fun_mk (st := s__law_same) l20 c20 k20
  have b20 := F20.binds (ps := ["one", "right"]) fun _ _ _ _ _ _ us hl => match us, hl with | [_, _], _ => rfl
  have g20 := PySem.W.mg_of X G a20
  have F21 := fun_mk (st := s__law_caught) l21 c21 k21
  have b21 := F21.binds (ps := ["work"]) fun _ _ _ _ _ _ us hl => match us, hl with | [_], _ => rfl
  have g21 := PySem.W.mg_of X G a21
  have F22 := fun_mk (st := s__law_names) l22 c22 k22
  have b22 := F22.binds (ps := ["draw", "many"]) fun _ _ _ _ _ _ us hl => match us, hl with | [_, _], _ => rfl
  have g22 := PySem.W.mg_of X G a22
  have F23 := fun_mk (st := s__law_common) l23 c23 k23
  have b23 := F23.binds (ps := ["rows"]) fun _ _ _ _ _ _ us hl => match us, hl with | [_], _ => rfl
  have g23 := PySem.W.mg_of X G a23
  have len : itsK.size ≤ sizeLine := by
    have z := vKEPT.length
    have e : itsK.size = itsK.toList.length := by simp
    rw [e, ← z]
    exact sz_of (by decide)
  have T : Tx K mg aK tL := { len := PySem.W.mg_none_of X G z_len, isinstance := PySem.W.mg_none_of X G z_isinstance, all := PySem.W.mg_none_of X G z_all, tuple := PySem.W.mg_none_of X G z_tuple, dict := PySem.W.mg_none_of X G z_dict, range := PySem.W.mg_none_of X G z_range, int := PySem.W.mg_none_of X G z_int, str := PySem.W.mg_none_of X G z_str, bool := PySem.W.mg_none_of X G z_bool, list := PySem.W.mg_none_of X G z_list, abs := PySem.W.mg_none_of X G z_abs, min := PySem.W.mg_none_of X G z_min, max := PySem.W.mg_none_of X G z_max, repr := PySem.W.mg_none_of X G z_repr, sorted := PySem.W.mg_none_of X G z_sorted, g_KEPT := PySem.W.mg_of X G aKEPT, g_LETTERS := PySem.W.mg_of X G aLETTERS, k_KEPT := ⟨_, itsK, nK, lKEPT, rfl, rfl, len, vKEPT⟩ }
  have NT : NoT K mg C DE := ⟨PySem.W.mg_of X G aC, kC, PySem.W.mg_of X G aD, xC, sC, tC, PySem.W.exm_ref sD hD tD sCD, ⟨e1, e2, sC, e4, e5, e6, e7, e8⟩, if_pos (by simp)⟩
  refine ⟨cL, PT, _, _, _, _, _, _, _, _, l24, rfl, lC, lP, nP, fun base H s a ns KB NB TB env hPT hS hl => ?_⟩
  have c_is_name : Cal P w K mg base CX0 1 "is_name" ["thing"] (spB PreName) := ⟨_, _, ok_is_name F0 T, g0, k0, b0⟩
  have c_is_rising : Cal P w K mg base CX0 1 "is_rising" ["items"] (spB PreRise) := ⟨_, _, ok_is_rising F1 T, g1, k1, b1⟩
  have c_is_currencies : Cal P w K mg base CX0 2 "is_currencies" ["thing"] (spB PreCurr) := ⟨_, _, ok_is_currencies F2 T c_is_name c_is_rising, g2, k2, b2⟩
  have c_is_number : Cal P w K mg base CX0 1 "is_number" ["value"] (spB PreNum) := ⟨_, _, ok_is_number F3 T, g3, k3, b3⟩
  have c_is_day : Cal P w K mg base CX0 2 "is_day" ["thing"] (spB PreDay) := ⟨_, _, ok_is_day F4 T c_is_number, g4, k4, b4⟩
  have c_is_row : Cal P w K mg base CX0 3 "is_row" ["thing"] (spB PreRow) := ⟨_, _, ok_is_row F5 T c_is_name c_is_rising c_is_day, g5, k5, b5⟩
  have c_is_calendar : Cal P w K mg base CX0 4 "is_calendar" ["thing"] (spB PreCal) := ⟨_, _, ok_is_calendar F6 T c_is_row c_is_currencies, g6, k6, b6⟩
  have c_check_days : Cal P w K mg base CX0 5 "check_days" ["calendar", "currencies"] (spN PreChk) := ⟨_, _, ok_check_days F7 T c_is_calendar c_is_currencies, g7, k7, b7⟩
  have c_common_days : Cal P w K mg base CX0 1 "common_days" ["calendar", "currencies"] spCom := ⟨_, _, ok_common_days F8 T, g8, k8, b8⟩
  have c_open_days : Cal P w K mg base CX0 6 "open_days" ["calendar", "currencies"] spCom := ⟨_, _, ok_open_days F9 T c_check_days c_common_days, g9, k9, b9⟩
  have c_day_of : Cal P w K mg base CX0 2 "day_of" ["calendar", "currencies", "day", "late", "lag"] spSet := ⟨_, _, ok_day_of F10 T c_common_days, g10, k10, b10⟩
  have c_check_lag : Cal P w K mg base CX0 2 "check_lag" ["lag"] (spN PreLag) := ⟨_, _, ok_check_lag F11 T c_is_number, g11, k11, b11⟩
  have c_settles : Cal P w K mg base CX0 6 "settles" ["calendar", "currencies", "day", "late", "lag"] spSet := ⟨_, _, ok_settles F12 T c_check_days c_is_day c_check_lag c_day_of, g12, k12, b12⟩
  have c_latest : Cal P w K mg base CX0 6 "latest" ["calendar", "currencies", "day", "lag"] spLat := ⟨_, _, ok_latest F13 T c_check_days c_is_day c_check_lag c_common_days, g13, k13, b13⟩
  have c_closed : Cal P w K mg base CX0 5 "closed" ["calendar", "currency", "day"] spClo := ⟨_, _, ok_closed F14 T c_is_calendar c_is_name c_is_day, g14, k14, b14⟩
  have c__law_begun : Cal P w K mg base CX0 1 "_law_begun" ["script"] (spBegun K) := ⟨_, _, ok__law_begun F15 T, g15, k15, b15⟩
  have c__law_blend : Cal P w K mg base CX0 1 "_law_blend" ["draw"] spBlend := ⟨_, _, ok__law_blend F16 T, g16, k16, b16⟩
  have c__law_take : Cal P w K mg base CX0 2 "_law_take" ["draw", "size"] spTake := ⟨_, _, ok__law_take F17 T c__law_blend, g17, k17, b17⟩
  have c__law_pick : Cal P w K mg base CX0 3 "_law_pick" ["draw", "some"] spPick := ⟨_, _, ok__law_pick F18 T c__law_take, g18, k18, b18⟩
  have c__law_shuffled : Cal P w K mg base CX0 3 "_law_shuffled" ["draw", "some"] spShuf := ⟨_, _, ok__law_shuffled F19 T c__law_take, g19, k19, b19⟩
  have c__law_same : CalG P w K mg base 1 "_law_same" ["one", "right"] (spSame K) := ⟨_, _, ok__law_same F20 T, g20, k20, b20⟩
  have c__law_names : Cal P w K mg base CX0 4 "_law_names" ["draw", "many"] spNames := ⟨_, _, ok__law_names F22 T c__law_shuffled, g22, k22, b22⟩
  have c__law_common : Cal P w K mg base CX0 1 "_law_common" ["rows"] (spJoin K) := ⟨_, _, ok__law_common F23 T, g23, k23, b23⟩
  have kb : CalK P w K mg base 6 "settles" ["calendar", "currencies", "day", "late", "lag"] ["lag", "late", "day", "currencies", "calendar"] gSet gSetV spSet := ⟨_, _, ok_settles F12 T c_check_days c_is_day c_check_lag c_day_of, g12, k12, kb_settles F12⟩
  refine ok_law l24 c24 T NT TB F21 g21 k21 b21 (ok_closedX F14 T NT c_is_calendar c_is_name c_is_day) g14 k14 b14 c_is_calendar c_open_days c_settles kb c_latest c_closed c__law_begun c__law_take c__law_pick c__law_names c__law_common c__law_same
    callerA [] s H ⟨[.ref a], []⟩ [.ref a] [.ref a] (fun v _ => v = .bl true) C8.E0 rfl ⟨rfl, by decide, by decide⟩ env (.of_eq rfl) (.cons rfl .nil) ⟨a, ns, rfl, hS, hl, hPT, fun _ => rfl⟩
end N56
namespace N56
open PySem PySem.Spec PyProof.Rows L2
theorem away {K : Params → PySem.W.Frag} {adrs : List Addr} {e : ∀ P, adrs = (K P).map (·.1)} {ts : List Addr} {w : World} {h : Heap} (_ : (PySem.W.kmHook K adrs e ts).says w h) {b : Addr} (n : adrs.contains b = false) : (K w.params).lookup b = none := by
  rw [List.lookup_eq_none_iff]
  intro p hp
  rw [bne_iff_ne]
  intro z
  rw [e w.params] at n
  have m : b ∈ (K w.params).map (·.1) := List.mem_map.mpr ⟨p, hp, z.symm⟩
  rw [List.contains_iff_mem.mpr m] at n
  cases n
/-- the goal that the head leaves, from LawAt -/
theorem walk_ofG {l : PySem.W.OpenLaw} {q : Program} {loose : List Str} {XP : (Str → Option Value) → Heap → Prop} {YP : World → Heap → Prop} {d : DefRec} {K : Params → PySem.W.Frag} (most : l.most = some 63) (noD : d.params.defaults = []) (isRec : ((recsOf q).any fun e => e.name == d.name) = true)
    (hY : ∀ (w : World) (h : Heap), YP w h → (K w.params).In h) (F : ∀ (w : World) (mg : Str → Option Value) (fa : Addr) (h : Heap), YP w h → (K w.params).In h → h.Ns mainGlobals mg → mg d.name = some (.ref fa) → LawAt l.prog w (K w.params) mg fa) :
    PySem.W.WalkO q loose XP YP l.row.toRowW d [] (fun f vs => PySem.call f vs) := by
  refine Att.attach_callB most noD fun w s₀ s₁ mg mb fa o pm cd doc a vs ns G Y ho hd hcd hmg hobj hin hlen hbits hg => ?_
  have KX := hY w _ Y
  obtain ⟨cL, PT, fd, oc, od, osl, ec, dc, us, sl, lf, hc, lc, hP, nP, run⟩ := (F w mg fa _ Y KX G.T.g hmg).ex
  obtain ⟨dL, mem, nm⟩ := List.any_eq_true.mp isRec
  obtain ⟨a2, o2, fd2, c2, P2, t1, t2, t3, t4, t5, t6⟩ := G.T.tab dL mem
  rw [beq_iff_eq.mp nm, hmg] at t1
  cases t1
  rw [KX _ _ lf] at t2
  cases t2
  cases t3
  rw [hc] at t4
  cases t4
  have code := PySem.W.CodeHd.of t5 t6
  obtain ⟨⟨oc3, us3, e1, _, e3, e4⟩, tab⟩ := t6
  rw [KX _ _ lc] at e1
  cases e1
  cases e3
  rw [hP] at e4
  cases e4
  exact law_end KX G.T.g G.T.b G.T.builtins G.T.nolimit hg tab nP code G.T.bmain hobj hin (Nat.le_trans hlen (by decide)) fun base H KB NB TB env hPT hS => run base H s₁ a ns KB NB TB env hPT hS hlen
end N56
open PySem PySem.W PyProof.Rows
set_option maxHeartbeats 0 in
theorem PySem.Challenge.cw_noringgains_k56_family_calendars_by_comm_holds : PySem.Challenge.rw_noringgains_k56_family_calendars_by_comm.Holds := by
  w_on; o_law; k_head; (case hw => w_witness2)
  k_fill
  refine N56.walk_ofG (l := PySem.Challenge.rw_noringgains_k56_family_calendars_by_comm) rfl rfl (by decide +kernel) (fun w h Y => PySem.W.km_in_of Y) ?F
  case F =>
    intro w mg fa h Y KX G hmg
    refine' N56.all_mk KX G hmg ?a0 ?l0 ?c0 ?k0 ?a1 ?l1 ?c1 ?k1 ?a2 ?l2 ?c2 ?k2 ?a3 ?l3 ?c3 ?k3 ?a4 ?l4 ?c4 ?k4 ?a5 ?l5 ?c5 ?k5 ?a6 ?l6 ?c6 ?k6 ?a7 ?l7 ?c7 ?k7 ?a8 ?l8 ?c8 ?k8 ?a9 ?l9 ?c9 ?k9 ?a10 ?l10 ?c10 ?k10 ?a11 ?l11 ?c11 ?k11 ?a12 ?l12 ?c12 ?k12 ?a13 ?l13 ?c13 ?k13 ?a14 ?l14 ?c14 ?k14 ?a15 ?l15 ?c15 ?k15 ?a16 ?l16 ?c16 ?k16 ?a17 ?l17 ?c17 ?k17 ?a18 ?l18 ?c18 ?k18 ?a19 ?l19 ?c19 ?k19 ?a20 ?l20 ?c20 ?k20 ?a21 ?l21 ?c21 ?k21 ?a22 ?l22 ?c22 ?k22 ?a23 ?l23 ?c23 ?k23 ?a24 ?l24 ?c24 ?k24 ?z_len ?z_isinstance ?z_all ?z_tuple ?z_dict ?z_range ?z_int ?z_str ?z_bool ?z_list ?z_abs ?z_min ?z_max ?z_repr ?z_sorted ?lC ?lP ?nP ?aKEPT ?lKEPT ?vKEPT ?aLETTERS ?aC ?aD ?kC ?xC ?sC ?tC ?sD ?hD ?tD ?sCD ?e1 ?e2 ?e4 ?e5 ?e6 ?e7 ?e8
    (case a0 => k_is)
    (case l0 => k_is)
    (case c0 => k_is)
    (case k0 => k_is)
    (case a1 => k_is)
    (case l1 => k_is)
    (case c1 => k_is)
    (case k1 => k_is)
    (case a2 => k_is)
    (case l2 => k_is)
    (case c2 => k_is)
    (case k2 => k_is)
    (case a3 => k_is)
    (case l3 => k_is)
    (case c3 => k_is)
    (case k3 => k_is)
    (case a4 => k_is)
    (case l4 => k_is)
    (case c4 => k_is)
    (case k4 => k_is)
    (case a5 => k_is)
    (case l5 => k_is)
    (case c5 => k_is)
    (case k5 => k_is)
    (case a6 => k_is)
    (case l6 => k_is)
    (case c6 => k_is)
    (case k6 => k_is)
    (case a7 => k_is)
    (case l7 => k_is)
    (case c7 => k_is)
    (case k7 => k_is)
    (case a8 => k_is)
    (case l8 => k_is)
    (case c8 => k_is)
    (case k8 => k_is)
    (case a9 => k_is)
    (case l9 => k_is)
    (case c9 => k_is)
    (case k9 => k_is)
    (case a10 => k_is)
    (case l10 => k_is)
    (case c10 => k_is)
    (case k10 => k_is)
    (case a11 => k_is)
    (case l11 => k_is)
    (case c11 => k_is)
    (case k11 => k_is)
    (case a12 => k_is)
    (case l12 => k_is)
    (case c12 => k_is)
    (case k12 => k_is)
    (case a13 => k_is)
    (case l13 => k_is)
    (case c13 => k_is)
    (case k13 => k_is)
    (case a14 => k_is)
    (case l14 => k_is)
    (case c14 => k_is)
    (case k14 => k_is)
    (case a15 => k_is)
    (case l15 => k_is)
    (case c15 => k_is)
    (case k15 => k_is)
    (case a16 => k_is)
    (case l16 => k_is)
    (case c16 => k_is)
    (case k16 => k_is)
    (case a17 => k_is)
    (case l17 => k_is)
    (case c17 => k_is)
    (case k17 => k_is)
    (case a18 => k_is)
    (case l18 => k_is)
    (case c18 => k_is)
    (case k18 => k_is)
    (case a19 => k_is)
    (case l19 => k_is)
    (case c19 => k_is)
    (case k19 => k_is)
    (case a20 => k_is)
    (case l20 => k_is)
    (case c20 => k_is)
    (case k20 => k_is)
    (case a21 => k_is)
    (case l21 => k_is)
    (case c21 => k_is)
    (case k21 => k_is)
    (case a22 => k_is)
    (case l22 => k_is)
    (case c22 => k_is)
    (case k22 => k_is)
    (case a23 => k_is)
    (case l23 => k_is)
    (case c23 => k_is)
    (case k23 => k_is)
    (case a24 => k_is)
    (case l24 => k_is)
    (case c24 => k_is)
    (case k24 => k_is)
    (case z_len => k_is)
    (case z_isinstance => k_is)
    (case z_all => k_is)
    (case z_tuple => k_is)
    (case z_dict => k_is)
    (case z_range => k_is)
    (case z_int => k_is)
    (case z_str => k_is)
    (case z_bool => k_is)
    (case z_list => k_is)
    (case z_abs => k_is)
    (case z_min => k_is)
    (case z_max => k_is)
    (case z_repr => k_is)
    (case z_sorted => k_is)
    (case lC => k_is)
    (case lP => rfl)
    (case nP => exact N56.away Y (by decide +kernel))
    (case aKEPT => k_is)
    (case lKEPT => k_is)
    (case vKEPT => repeat (first | exact .nil | refine .cons ⟨_, rfl⟩ ?_))
    (case aLETTERS => k_is)
    (case aC => k_is)
    (case aD => k_is)
    (case kC => k_is)
    (case xC => k_exc)
    (case sC => k_is)
    (case tC => k_is)
    (case sD => k_is)
    (case hD => k_is)
    (case tD => k_is)
    (case sCD => first | rfl | k_is)
    (case e1 => k_is)
    (case e2 => k_is)
    (case e4 => k_is)
    (case e5 => k_is)
    (case e6 => k_is)
    (case e7 => k_is)
    (case e8 => k_is)
