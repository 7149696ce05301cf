import PyProof.Rows.All
import Wide.All
import OpenK.AllK
import Wide.FinOn
import PySem.Challenge.RW_noringgains_k43_whole_queues_one_behind
import HandS.Zip
import HandS.ForMost
import KE.GoesMore
import KE.GoesZip
import PyProof.EnumMake
import PyProof.ReprRoads
import KE.KDictPairs
import HandS.IsInst
import HandS.DictComp
import HandS.Style
import HandS.Conv
import HandS.WordsExc
import HandS.Lambda
import HandS.EndTab
import HandS.CallLocal
import HandS.TupMul
import HandS.SortRule
import HandS.Evl
import HandS.NoneIn
import HandS.TupAny
import HandS.Walk
import KE.KEqDeep
set_option Elab.async false
set_option linter.all false
set_option maxRecDepth 100000
set_option maxHeartbeats 8000000
namespace KQ
variable {α : Type} [DecidableEq α]
/-- a house: name, cash, payments (creditor, amount) -/
abbrev Row (α : Type) := α × Int × List (α × Int)
/-- what goes out with the first k payments, what comes to z with them -/
def outS (p : List (α × Int)) (k : Nat) : Int := ((p.take k).map fun x => x.2).sum
def inS (p : List (α × Int)) (k : Nat) (z : α) : Int := ((p.take k).map fun x => if x.1 = z then x.2 else 0).sum
def got (qs : List (Row α)) (f : α → Nat) (z : α) : Int := (qs.map fun r => inS r.2.2 (f r.1) z).sum
/-- the balance of a house, where c is the cash and f how many payments each house has made -/
def held (qs : List (Row α)) (c : α → Int) (f : α → Nat) (r : Row α) : Int := c r.1 - outS r.2.2 (f r.1) + got qs f r.1
structure Good (qs : List (Row α)) : Prop where
  nd : (qs.map fun r => r.1).Nodup
  pos : ∀ r ∈ qs, ∀ x ∈ r.2.2, 1 ≤ x.2
def Within (qs : List (Row α)) (f : α → Nat) : Prop := ∀ r ∈ qs, f r.1 ≤ r.2.2.length
def Leq (qs : List (Row α)) (f g : α → Nat) : Prop := ∀ r ∈ qs, f r.1 ≤ g r.1
/-- nobody can pay -/
def Stable (qs : List (Row α)) (c : α → Int) (f : α → Nat) : Prop := ∀ r ∈ qs, ∀ x, r.2.2[f r.1]? = some x → held qs c f r < x.2
def Below (qs : List (Row α)) (c : α → Int) (f : α → Nat) : Prop := Within qs f ∧ ∀ g, Within qs g → Stable qs c g → Leq qs f g
def Least (qs : List (Row α)) (c : α → Int) (f : α → Nat) : Prop := Below qs c f ∧ Stable qs c f
/-- nobody is below nothing -/
def Feas (qs : List (Row α)) (c : α → Int) (f : α → Nat) : Prop := ∀ r ∈ qs, 0 ≤ held qs c f r
def Above (qs : List (Row α)) (c : α → Int) (f : α → Nat) : Prop := Within qs f ∧ ∀ g, Within qs g → Feas qs c g → Leq qs g f
def Great (qs : List (Row α)) (c : α → Int) (f : α → Nat) : Prop := Above qs c f ∧ Feas qs c f
def bump (f : α → Nat) (z : α) : α → Nat := fun y => if y = z then f y + 1 else f y
def drop (f : α → Nat) (z : α) : α → Nat := fun y => if y = z then f y - 1 else f y
theorem bump_same (f : α → Nat) (z : α) : bump f z z = f z + 1 := if_pos rfl
theorem bump_ne {f : α → Nat} {z y : α} (h : y ≠ z) : bump f z y = f y := if_neg h
theorem drop_same (f : α → Nat) (z : α) : drop f z z = f z - 1 := if_pos rfl
theorem drop_ne {f : α → Nat} {z y : α} (h : y ≠ z) : drop f z y = f y := if_neg h
/-! ### sums -/
theorem sum_append (l m : List Int) : (l ++ m).sum = l.sum + m.sum := by
  induction l with
  | nil => simp
  | cons x l ih =>
    rw [List.cons_append, List.sum_cons, List.sum_cons, ih]
    omega
theorem take_succ_of {β : Type} {l : List β} {k : Nat} {x : β} (h : l[k]? = some x) : l.take (k + 1) = l.take k ++ [x] := by
  rw [List.take_succ, h]
  rfl
theorem outS_succ {p : List (α × Int)} {k : Nat} {x : α × Int} (h : p[k]? = some x) : outS p (k + 1) = outS p k + x.2 := by
  unfold outS
  rw [take_succ_of h, List.map_append, sum_append]
  simp
theorem inS_succ {p : List (α × Int)} {k : Nat} {x : α × Int} (z : α) (h : p[k]? = some x) : inS p (k + 1) z = inS p k z + if x.1 = z then x.2 else 0 := by
  unfold inS
  rw [take_succ_of h, List.map_append, sum_append]
  simp
theorem sum_nonneg : ∀ {l : List Int}, (∀ x ∈ l, 0 ≤ x) → 0 ≤ l.sum
  | [], _ => by simp
  | x :: l, h => by
    have h1 := h x List.mem_cons_self
    have h2 := sum_nonneg fun y hy => h y (List.mem_cons_of_mem _ hy)
    rw [List.sum_cons]
    omega
theorem inS_nonneg {p : List (α × Int)} (hp : ∀ x ∈ p, 1 ≤ x.2) (k : Nat) (z : α) : 0 ≤ inS p k z := by
  unfold inS
  refine sum_nonneg fun y hy => ?_
  obtain ⟨x, hx, rfl⟩ := List.mem_map.mp hy
  have := hp x (List.mem_of_mem_take hx)
  split <;> omega
theorem inS_mono {p : List (α × Int)} (hp : ∀ x ∈ p, 1 ≤ x.2) (z : α) {k m : Nat} (h : k ≤ m) : inS p k z ≤ inS p m z := by
  have e : p.take m = p.take k ++ (p.drop k).take (m - k) := by
    rw [← List.take_append_drop k (p.take m), List.take_take, Nat.min_eq_left h, List.drop_take]
  unfold inS
  rw [e, List.map_append, sum_append]
  have : 0 ≤ (((p.drop k).take (m - k)).map fun x => if x.1 = z then x.2 else 0).sum := by
    refine sum_nonneg fun y hy => ?_
    obtain ⟨x, hx, rfl⟩ := List.mem_map.mp hy
    have := hp x (List.mem_of_mem_drop (List.mem_of_mem_take hx))
    split <;> omega
  omega
theorem sum_mono {β : Type} : ∀ {l : List β} {g h : β → Int}, (∀ x ∈ l, g x ≤ h x) → (l.map g).sum ≤ (l.map h).sum
  | [], _, _, _ => by simp
  | x :: l, g, h, k => by
    have h1 := k x List.mem_cons_self
    have h2 := sum_mono (l := l) fun y hy => k y (List.mem_cons_of_mem _ hy)
    rw [List.map_cons, List.map_cons, List.sum_cons, List.sum_cons]
    omega
theorem got_mono {qs : List (Row α)} (G : Good qs) {f g : α → Nat} (h : Leq qs f g) (z : α) : got qs f z ≤ got qs g z := sum_mono fun r hr => inS_mono (G.pos r hr) z (h r hr)
theorem got_nonneg {qs : List (Row α)} (G : Good qs) (f : α → Nat) (z : α) : 0 ≤ got qs f z := by
  refine sum_nonneg fun y hy => ?_
  obtain ⟨r, hr, rfl⟩ := List.mem_map.mp hy
  exact inS_nonneg (G.pos r hr) _ z
theorem got_congr {qs : List (Row α)} {f g : α → Nat} (h : ∀ r ∈ qs, f r.1 = g r.1) (z : α) : got qs f z = got qs g z := by
  unfold got
  congr 1
  exact List.map_congr_left fun r hr => by rw [h r hr]
theorem row_eq {qs : List (Row α)} (nd : (qs.map fun r => r.1).Nodup) {r q : Row α} (hr : r ∈ qs) (hq : q ∈ qs) (e : r.1 = q.1) : r = q := by
  induction qs with
  | nil => cases hr
  | cons x l ih =>
    obtain ⟨h1, h2⟩ := List.nodup_cons.mp nd
    rcases List.mem_cons.mp hr with a | a
    · rcases List.mem_cons.mp hq with b | b
      · rw [a, b]
      · exact absurd (List.mem_map.mpr ⟨q, b, by rw [← e, a]⟩) h1
    · rcases List.mem_cons.mp hq with b | b
      · exact absurd (List.mem_map.mpr ⟨r, a, by rw [e, b]⟩) h1
      · exact ih h2 a b
theorem got_bump {r : Row α} {x : α × Int} (z : α) : ∀ {qs : List (Row α)} {f : α → Nat}, (qs.map fun r => r.1).Nodup → r ∈ qs → r.2.2[f r.1]? = some x → got qs (bump f r.1) z = got qs f z + if x.1 = z then x.2 else 0
  | [], _, _, h, _ => by cases h
  | q :: l, f, nd, h, hx => by
    obtain ⟨h1, h2⟩ := List.nodup_cons.mp nd
    have e : ∀ (g : α → Nat), got (q :: l) g z = inS q.2.2 (g q.1) z + got l g z := fun g => by
      unfold got
      rw [List.map_cons, List.sum_cons]
    rw [e, e]
    by_cases hq : q = r
    · subst hq
      have same : got l (bump f q.1) z = got l f z := got_congr (fun y hy => bump_ne fun z2 => h1 (List.mem_map.mpr ⟨y, hy, z2⟩)) z
      rw [same, bump_same, inS_succ z hx]
      omega
    · have hr : r ∈ l := by
        rcases List.mem_cons.mp h with a | a
        · exact absurd a.symm hq
        · exact a
      have nq : q.1 ≠ r.1 := fun z2 => h1 (List.mem_map.mpr ⟨r, hr, z2.symm⟩)
      rw [got_bump z h2 hr hx, bump_ne nq]
      omega
theorem held_bump {qs : List (Row α)} (nd : (qs.map fun r => r.1).Nodup) {c : α → Int} {f : α → Nat} {r q : Row α} {x : α × Int} (hr : r ∈ qs) (hq : q ∈ qs) (hx : r.2.2[f r.1]? = some x) :
    held qs c (bump f r.1) q = held qs c f q - (if q.1 = r.1 then x.2 else 0) + if x.1 = q.1 then x.2 else 0 := by
  unfold held
  rw [got_bump q.1 nd hr hx]
  by_cases e : q.1 = r.1
  · have := row_eq nd hq hr e
    subst this
    rw [bump_same, outS_succ hx, if_pos rfl]
    omega
  · rw [bump_ne e, if_neg e]
    omega
/-! ### the least state in which nobody can pay -/
theorem below_zero (qs : List (Row α)) (c : α → Int) : Below qs c (fun _ => 0) := ⟨fun _ _ => Nat.zero_le _, fun _ _ _ _ _ => Nat.zero_le _⟩
theorem held_le {qs : List (Row α)} (G : Good qs) {c d : α → Int} {f g : α → Nat} {r : Row α} (h : Leq qs f g) (e : f r.1 = g r.1) (hc : c r.1 ≤ d r.1) : held qs c f r ≤ held qs d g r := by
  have := got_mono G h r.1
  unfold held
  rw [e]
  omega
theorem below_step {qs : List (Row α)} (G : Good qs) {c : α → Int} {f : α → Nat} (h : Below qs c f) {r : Row α} {x : α × Int} (hr : r ∈ qs) (hx : r.2.2[f r.1]? = some x) (pay : x.2 ≤ held qs c f r) : Below qs c (bump f r.1) := by
  obtain ⟨w, b⟩ := h
  have hlt : f r.1 < r.2.2.length := (List.getElem?_eq_some_iff.mp hx).1
  refine ⟨fun q hq => ?_, fun g wg sg q hq => ?_⟩
  · by_cases e : q.1 = r.1
    · have := row_eq G.nd hq hr e
      subst this
      rw [bump_same]
      exact hlt
    · rw [bump_ne e]
      exact w q hq
  · have hle := b g wg sg
    by_cases e : q.1 = r.1
    · have := row_eq G.nd hq hr e
      subst this
      rw [bump_same]
      rcases Nat.lt_or_ge (f q.1) (g q.1) with h1 | h1
      · exact h1
      · have e2 : f q.1 = g q.1 := Nat.le_antisymm (hle q hq) h1
        have h2 := held_le G (c := c) (d := c) hle e2 (Int.le_refl _)
        have h3 := sg q hq x (by rw [← e2]; exact hx)
        omega
    · rw [bump_ne e]
      exact hle q hq
theorem least_eq {qs : List (Row α)} {c : α → Int} {f g : α → Nat} (hf : Least qs c f) (hg : Least qs c g) : ∀ r ∈ qs, f r.1 = g r.1 := fun r hr =>
  Nat.le_antisymm (hf.1.2 g hg.1.1 hg.2 r hr) (hg.1.2 f hf.1.1 hf.2 r hr)
theorem stable_less {qs : List (Row α)} {c d : α → Int} {f : α → Nat} (h : ∀ r ∈ qs, c r.1 ≤ d r.1) (s : Stable qs d f) : Stable qs c f := fun r hr x hx => by
  have h1 := s r hr x hx
  have h2 := h r hr
  unfold held at h1 ⊢
  omega
theorem below_more {qs : List (Row α)} {c d : α → Int} {f : α → Nat} (h : ∀ r ∈ qs, c r.1 ≤ d r.1) (b : Below qs c f) : Below qs d f := ⟨b.1, fun g wg sg => b.2 g wg (stable_less h sg)⟩
theorem least_mono {qs : List (Row α)} {c d : α → Int} {f g : α → Nat} (h : ∀ r ∈ qs, c r.1 ≤ d r.1) (hf : Least qs c f) (hg : Least qs d g) : Leq qs f g := hf.1.2 g hg.1.1 (stable_less h hg.2)
/-! ### the greatest state in which nobody is below nothing -/
theorem above_all (qs : List (Row α)) (c : α → Int) {f : α → Nat} (h : ∀ r ∈ qs, f r.1 = r.2.2.length) : Above qs c f := ⟨fun r hr => Nat.le_of_eq (h r hr), fun g wg _ r hr => by rw [h r hr]; exact wg r hr⟩
theorem above_pos {qs : List (Row α)} (G : Good qs) {c : α → Int} {f : α → Nat} {r : Row α} (c0 : 0 ≤ c r.1) (lack : held qs c f r < 0) : f r.1 ≠ 0 := fun e => by
  have h1 := got_nonneg G f r.1
  unfold held at lack
  rw [e] at lack
  have : outS r.2.2 0 = 0 := by
    unfold outS
    rfl
  omega
theorem above_step {qs : List (Row α)} (G : Good qs) {c : α → Int} {f : α → Nat} (h : Above qs c f) {r : Row α} (hr : r ∈ qs) (lack : held qs c f r < 0) : Above qs c (drop f r.1) := by
  obtain ⟨w, b⟩ := h
  refine ⟨fun q hq => ?_, fun g wg sg q hq => ?_⟩
  · have := w q hq
    unfold drop
    split <;> omega
  · have hle := b g wg sg
    by_cases e : q.1 = r.1
    · have := row_eq G.nd hq hr e
      subst this
      rw [drop_same]
      rcases Nat.lt_or_ge (g q.1) (f q.1) with h1 | h1
      · omega
      · have e2 : g q.1 = f q.1 := Nat.le_antisymm (hle q hq) h1
        have h2 := held_le G (c := c) (d := c) hle e2 (Int.le_refl _)
        have h3 := sg q hq
        omega
    · rw [drop_ne e]
      exact hle q hq
theorem great_eq {qs : List (Row α)} {c : α → Int} {f g : α → Nat} (hf : Great qs c f) (hg : Great qs c g) : ∀ r ∈ qs, f r.1 = g r.1 := fun r hr =>
  Nat.le_antisymm (hg.1.2 f hf.1.1 hf.2 r hr) (hf.1.2 g hg.1.1 hg.2 r hr)
/-- the greatest is one in which nobody can pay, so the least lies below it -/
theorem great_stable {qs : List (Row α)} (G : Good qs) {c : α → Int} {f : α → Nat} (h : Great qs c f) : Stable qs c f := fun r hr x hx => by
  rcases Int.lt_or_le (held qs c f r) x.2 with h1 | h1
  · exact h1
  · exfalso
    have hlt : f r.1 < r.2.2.length := (List.getElem?_eq_some_iff.mp hx).1
    have w : Within qs (bump f r.1) := fun q hq => by
      by_cases e : q.1 = r.1
      · have := row_eq G.nd hq hr e
        subst this
        rw [bump_same]
        exact hlt
      · rw [bump_ne e]
        exact h.1.1 q hq
    have x1 := G.pos r hr x (List.mem_of_getElem? hx)
    have fe : Feas qs c (bump f r.1) := fun q hq => by
      rw [held_bump G.nd hr hq hx]
      have h2 := h.2 q hq
      by_cases e : q.1 = r.1
      · have := row_eq G.nd hq hr e
        subst this
        rw [if_pos rfl]
        split <;> omega
      · rw [if_neg e]
        split <;> omega
    have := h.1.2 _ w fe r hr
    rw [bump_same] at this
    omega
/-! ### the least cash of one house with which a goal is reached -/
def setC (c : α → Int) (h : α) (v : Int) : α → Int := fun z => if z = h then v else c z
theorem setC_same (c : α → Int) (h : α) (v : Int) : setC c h v h = v := if_pos rfl
theorem setC_ne {c : α → Int} {h z : α} {v : Int} (n : z ≠ h) : setC c h v z = c z := if_neg n
def Reach (qs : List (Row α)) (c : α → Int) (goal : α → Nat) : Prop := ∀ g, Within qs g → Stable qs c g → Leq qs goal g
theorem reach_iff {qs : List (Row α)} {c : α → Int} {goal f : α → Nat} (h : Least qs c f) : Reach qs c goal ↔ Leq qs goal f :=
  ⟨fun k => k f h.1.1 h.2, fun k g wg sg r hr => Nat.le_trans (k r hr) (h.1.2 g wg sg r hr)⟩
def Need (qs : List (Row α)) (c : α → Int) (h : α) (goal : α → Nat) : Option Int → Prop
  | some v => 0 ≤ v ∧ Reach qs (setC c h v) goal ∧ ∀ u, 0 ≤ u → Reach qs (setC c h u) goal → v ≤ u
  | none => ∀ u, 0 ≤ u → ¬ Reach qs (setC c h u) goal
theorem need_eq {qs qt : List (Row α)} {c d : α → Int} {h k : α} {goal aim : α → Nat} (e : ∀ u, 0 ≤ u → (Reach qs (setC c h u) goal ↔ Reach qt (setC d k u) aim)) {v w : Option Int} (hv : Need qs c h goal v) (hw : Need qt d k aim w) : v = w := by
  cases v with
  | none =>
    cases w with
    | none => rfl
    | some y => exact absurd ((e y hw.1).2 hw.2.1) (hv y hw.1)
  | some x =>
    cases w with
    | none => exact absurd ((e x hv.1).1 hv.2.1) (hw x hv.1)
    | some y =>
      have h1 := hv.2.2 y hw.1 ((e y hw.1).2 hw.2.1)
      have h2 := hw.2.2 x hv.1 ((e x hv.1).1 hv.2.1)
      rw [Int.le_antisymm h1 h2]
theorem reach_mono {qs : List (Row α)} {c d : α → Int} {goal : α → Nat} (h : ∀ r ∈ qs, c r.1 ≤ d r.1) (k : Reach qs c goal) : Reach qs d goal := fun g wg sg => k g wg (stable_less h sg)
theorem setC_le {c : α → Int} {h : α} {u v : Int} (l : u ≤ v) (z : α) : setC c h u z ≤ setC c h v z := by
  unfold setC
  split <;> omega
/-- what holds while cash is lent: v so far, f paid so far -/
structure Lends (qs : List (Row α)) (c : α → Int) (h : α) (goal : α → Nat) (v : Int) (f : α → Nat) : Prop where
  v0 : 0 ≤ v
  below : Below qs (setC c h v) f
  least : ∀ u, 0 ≤ u → Reach qs (setC c h u) goal → v ≤ u
theorem lends_begin (qs : List (Row α)) (c : α → Int) (h : α) (goal : α → Nat) : Lends qs c h goal 0 (fun _ => 0) := ⟨Int.le_refl _, below_zero _ _, fun _ h _ => h⟩
theorem lends_pay {qs : List (Row α)} (G : Good qs) {c : α → Int} {h : α} {goal f : α → Nat} {v : Int} (L : Lends qs c h goal v f) {r : Row α} {x : α × Int} (hr : r ∈ qs) (hx : r.2.2[f r.1]? = some x) (pay : x.2 ≤ held qs (setC c h v) f r) :
    Lends qs c h goal v (bump f r.1) := ⟨L.v0, below_step G L.below hr hx pay, L.least⟩
theorem lends_none {qs : List (Row α)} {c : α → Int} {h : α} {goal f : α → Nat} {v : Int} (L : Lends qs c h goal v f) (st : Stable qs (setC c h v) f) (no : ¬ Leq qs goal f) {r : Row α} (nd : (qs.map fun r => r.1).Nodup) (hr : r ∈ qs) (er : r.1 = h) (full : f h = r.2.2.length) : Need qs c h goal none := by
  intro u u0 k
  have hv := L.least u u0 k
  refine no (k f L.below.1 fun q hq x hx => ?_)
  by_cases e : q.1 = h
  · have := row_eq nd hq hr (by rw [e, er])
    subst this
    rw [er, full] at hx
    rw [List.getElem?_eq_none (Nat.le_refl _)] at hx
    cases hx
  · have h1 := st q hq x hx
    unfold held at h1 ⊢
    rw [setC_ne e] at h1 ⊢
    exact h1
theorem lends_more {qs : List (Row α)} (G : Good qs) {c : α → Int} {h : α} {goal f : α → Nat} {v : Int} (L : Lends qs c h goal v f) (st : Stable qs (setC c h v) f) (no : ¬ Leq qs goal f) {r : Row α} {x : α × Int} (hr : r ∈ qs) (er : r.1 = h) (hx : r.2.2[f r.1]? = some x) :
    0 < x.2 - held qs (setC c h v) f r ∧ Lends qs c h goal (v + (x.2 - held qs (setC c h v) f r)) (bump f r.1) := by
  have hlt := st r hr x hx
  have eh : ∀ w, held qs (setC c h w) f r = held qs (setC c h v) f r + (w - v) := fun w => by
    unfold held
    rw [er, setC_same, setC_same]
    omega
  have pos : 0 < x.2 - held qs (setC c h v) f r := by omega
  generalize hl : x.2 - held qs (setC c h v) f r = loan at pos
  have le : ∀ r ∈ qs, setC c h v r.1 ≤ setC c h (v + loan) r.1 := fun q _ => setC_le (by omega) q.1
  refine ⟨pos, by have := L.v0; omega, below_step G (below_more le L.below) hr hx ?_, fun u u0 k => ?_⟩
  · rw [eh]
    omega
  · have hv := L.least u u0 k
    rcases Int.lt_or_le u (v + loan) with h1 | h1
    · exfalso
      refine no (k f L.below.1 fun q hq y hy => ?_)
      by_cases e : q.1 = h
      · have := row_eq G.nd hq hr (by rw [e, er])
        subst this
        rw [hx] at hy
        cases hy
        rw [eh]
        omega
      · have h2 := st q hq y hy
        unfold held at h2 ⊢
        rw [setC_ne e] at h2 ⊢
        exact h2
    · exact h1
theorem lends_done {qs : List (Row α)} {c : α → Int} {h : α} {goal f : α → Nat} {v : Int} (L : Lends qs c h goal v f) (yes : Leq qs goal f) : Need qs c h goal (some v) :=
  ⟨L.v0, fun g wg sg r hr => Nat.le_trans (yes r hr) (L.below.2 g wg sg r hr), L.least⟩
/-! ### two systems, the one's house paying on to a house of the other -/
def linkRow (house goal : α) (many : Nat) (r : Row α) : Row α := if r.1 = house then (r.1, r.2.1, List.replicate many (goal, 1)) else r
structure Linked (one other B : List (Row α)) (house goal : α) (many : Nat) (r0 : Row α) : Prop where
  G1 : Good one
  G2 : Good other
  dis : ∀ r ∈ one, ∀ q ∈ other, r.1 ≠ q.1
  in1 : ∀ r ∈ one, ∀ x ∈ r.2.2, ∃ q ∈ one, q.1 = x.1
  in2 : ∀ r ∈ other, ∀ x ∈ r.2.2, ∃ q ∈ other, q.1 = x.1
  hr : r0 ∈ one
  hn : r0.1 = house
  hp : r0.2.2 = []
  gl : ∃ q ∈ other, q.1 = goal
  perm : B.Perm (one.map (linkRow house goal many) ++ other)
theorem perm_sum {l m : List Int} (h : l.Perm m) : l.sum = m.sum := by
  induction h with
  | nil => rfl
  | cons x _ ih => rw [List.sum_cons, List.sum_cons, ih]
  | swap x y l =>
    rw [List.sum_cons, List.sum_cons, List.sum_cons, List.sum_cons]
    omega
  | trans _ _ ih1 ih2 => rw [ih1, ih2]
theorem got_perm {qs qt : List (Row α)} (h : qs.Perm qt) (f : α → Nat) (z : α) : got qs f z = got qt f z := perm_sum (h.map _)
theorem got_append (qs qt : List (Row α)) (f : α → Nat) (z : α) : got (qs ++ qt) f z = got qs f z + got qt f z := by
  unfold got
  rw [List.map_append, sum_append]
theorem sum_zero : ∀ {l : List Int}, (∀ x ∈ l, x = 0) → l.sum = 0
  | [], _ => rfl
  | x :: l, h => by
    rw [List.sum_cons, h x List.mem_cons_self, sum_zero fun y hy => h y (List.mem_cons_of_mem _ hy)]
    rfl
theorem got_none {qs : List (Row α)} {z : α} (h : ∀ r ∈ qs, ∀ x ∈ r.2.2, x.1 ≠ z) (f : α → Nat) : got qs f z = 0 := by
  refine sum_zero fun y hy => ?_
  obtain ⟨r, hr, rfl⟩ := List.mem_map.mp hy
  refine sum_zero fun u hu => ?_
  obtain ⟨x, hx, rfl⟩ := List.mem_map.mp hu
  exact if_neg (h r hr x (List.mem_of_mem_take hx))
theorem out_units (goal : α) : ∀ (many k : Nat), outS (List.replicate many (goal, 1)) k = ((min k many : Nat) : Int) := fun many k => by
  unfold outS
  rw [List.take_replicate, List.map_replicate]
  induction (min k many) with
  | zero => rfl
  | succ n ih =>
    rw [List.replicate_succ, List.sum_cons, ih]
    omega
theorem in_units (goal z : α) (many k : Nat) : inS (List.replicate many (goal, 1)) k z = if goal = z then ((min k many : Nat) : Int) else 0 := by
  unfold inS
  rw [List.take_replicate, List.map_replicate]
  split
  · induction (min k many) with
    | zero => rfl
    | succ n ih =>
      rw [List.replicate_succ, List.sum_cons, ih]
      omega
  · refine sum_zero fun x hx => ?_
    exact (List.mem_replicate.mp hx).2
theorem got_same {qs : List (Row α)} {f g : α → Nat} (h : ∀ r ∈ qs, r.2.2 = [] ∨ f r.1 = g r.1) (z : α) : got qs f z = got qs g z := by
  unfold got
  congr 1
  refine List.map_congr_left fun r hr => ?_
  rcases h r hr with e | e
  · rw [e]
    unfold inS
    simp
  · rw [e]
theorem link_ne {house goal : α} {many : Nat} {r : Row α} (h : r.1 ≠ house) : linkRow house goal many r = r := if_neg h
theorem link_name (house goal : α) (many : Nat) (r : Row α) : (linkRow house goal many r).1 = r.1 := by
  unfold linkRow
  split <;> rfl
theorem got_link {house goal : α} {many : Nat} (f : α → Nat) (z : α) : ∀ {qs : List (Row α)}, (qs.map fun r => r.1).Nodup → (∀ r ∈ qs, r.1 = house → r.2.2 = []) →
    got (qs.map (linkRow house goal many)) f z = got qs f z + if house ∈ qs.map (fun r => r.1) then (if goal = z then ((min (f house) many : Nat) : Int) else 0) else 0
  | [], _, _ => by
    unfold got
    simp
  | r :: l, nd, he => by
    obtain ⟨h1, h2⟩ := List.nodup_cons.mp nd
    have ih := got_link f z (goal := goal) (many := many) h2 fun q hq => he q (List.mem_cons_of_mem _ hq)
    have e : ∀ (q : Row α) (m : List (Row α)), got (q :: m) f z = inS q.2.2 (f q.1) z + got m f z := fun q m => by
      unfold got
      rw [List.map_cons, List.sum_cons]
    rw [List.map_cons, e, e, ih]
    by_cases hh : r.1 = house
    · have no : house ∉ l.map fun r => r.1 := by
        rw [← hh]
        exact h1
      rw [if_neg no, if_pos (show house ∈ (r :: l).map (fun r => r.1) by rw [List.map_cons, hh]; exact List.mem_cons_self), he r List.mem_cons_self hh]
      have el : linkRow house goal many r = (r.1, r.2.1, List.replicate many (goal, 1)) := if_pos hh
      rw [el]
      dsimp only
      rw [in_units, hh]
      have : inS ([] : List (α × Int)) (f house) z = 0 := by
        unfold inS
        simp
      rw [this]
      omega
    · rw [link_ne hh]
      have iff : (house ∈ (r :: l).map fun r => r.1) ↔ house ∈ l.map fun r => r.1 := by
        rw [List.map_cons, List.mem_cons]
        exact ⟨fun k => k.elim (fun k => absurd k.symm hh) id, Or.inr⟩
      by_cases k : house ∈ l.map fun r => r.1
      · rw [if_pos k, if_pos (iff.2 k)]
        omega
      · rw [if_neg k, if_neg (fun k2 => k (iff.1 k2))]
        omega
def addC (c : α → Int) (g : α) (v : Int) : α → Int := fun z => c z + if z = g then v else 0
section
variable {one other B : List (Row α)} {house goal : α} {many : Nat} {r0 : Row α} {c : α → Int} {f : α → Nat}
theorem Linked.empty (L : Linked one other B house goal many r0) : ∀ r ∈ one, r.1 = house → r.2.2 = [] := fun r hr e => by
  have := row_eq L.G1.nd hr L.hr (by rw [e, L.hn])
  rw [this]
  exact L.hp
theorem Linked.mem (L : Linked one other B house goal many r0) {R : Row α} : R ∈ B ↔ (∃ r ∈ one, R = linkRow house goal many r) ∨ R ∈ other := by
  rw [L.perm.mem_iff, List.mem_append, List.mem_map]
  constructor
  · rintro (⟨r, h, e⟩ | h)
    · exact Or.inl ⟨r, h, e.symm⟩
    · exact Or.inr h
  · rintro (⟨r, h, e⟩ | h)
    · exact Or.inl ⟨r, h, e.symm⟩
    · exact Or.inr h
theorem Linked.gotB (L : Linked one other B house goal many r0) (z : α) : got B f z = got one f z + (if goal = z then ((min (f house) many : Nat) : Int) else 0) + got other f z := by
  rw [got_perm L.perm, got_append, got_link f z L.G1.nd L.empty, if_pos (List.mem_map.mpr ⟨r0, L.hr, L.hn⟩)]
theorem Linked.goal_ne (L : Linked one other B house goal many r0) {r : Row α} (hr : r ∈ one) : goal ≠ r.1 := fun e => by
  obtain ⟨q, hq, eq⟩ := L.gl
  exact L.dis r hr q hq (by rw [eq, e])
theorem Linked.one_other (L : Linked one other B house goal many r0) {q : Row α} (hq : q ∈ other) : got one f q.1 = 0 := got_none (fun r hr x hx e => by
  obtain ⟨r2, h2, e2⟩ := L.in1 r hr x hx
  exact L.dis r2 h2 q hq (by rw [e2, e])) f
theorem Linked.other_one (L : Linked one other B house goal many r0) {r : Row α} (hr : r ∈ one) : got other f r.1 = 0 := got_none (fun q hq x hx e => by
  obtain ⟨q2, h2, e2⟩ := L.in2 q hq x hx
  exact L.dis r hr q2 h2 (by rw [e2, e])) f
theorem Linked.held1 (L : Linked one other B house goal many r0) {r : Row α} (hr : r ∈ one) (hn : r.1 ≠ house) : held B c f (linkRow house goal many r) = held one c f r := by
  rw [link_ne hn]
  unfold held
  rw [L.gotB, L.other_one hr, if_neg (L.goal_ne hr)]
  omega
theorem Linked.heldH (L : Linked one other B house goal many r0) : held B c f (linkRow house goal many r0) = held one c f r0 - ((min (f house) many : Nat) : Int) := by
  have el : linkRow house goal many r0 = (r0.1, r0.2.1, List.replicate many (goal, 1)) := if_pos L.hn
  rw [el]
  unfold held
  dsimp only
  rw [L.gotB, L.other_one L.hr, if_neg (L.goal_ne L.hr), out_units, L.hp, L.hn]
  have : outS ([] : List (α × Int)) (f house) = 0 := by
    unfold outS
    simp
  rw [this]
  omega
theorem Linked.held2 (L : Linked one other B house goal many r0) {q : Row α} (hq : q ∈ other) : held B c f q = held other (addC c goal ((min (f house) many : Nat) : Int)) f q := by
  unfold held addC
  rw [L.gotB, L.one_other hq]
  by_cases e : q.1 = goal
  · rw [if_pos e.symm, if_pos e]
    omega
  · rw [if_neg (fun k => e k.symm), if_neg e]
    omega
theorem Linked.good (L : Linked one other B house goal many r0) : Good B := by
  refine ⟨?_, fun R hR x hx => ?_⟩
  · have e : ((one.map (linkRow house goal many) ++ other).map fun r => r.1) = (one.map fun r => r.1) ++ other.map fun r => r.1 := by
      rw [List.map_append, List.map_map]
      congr 1
      exact List.map_congr_left fun r _ => link_name house goal many r
    rw [(L.perm.map _).nodup_iff, e]
    refine List.nodup_append.mpr ⟨L.G1.nd, L.G2.nd, fun a ha b hb => ?_⟩
    obtain ⟨r, hr, rfl⟩ := List.mem_map.mp ha
    obtain ⟨q, hq, rfl⟩ := List.mem_map.mp hb
    exact L.dis r hr q hq
  · rcases L.mem.1 hR with ⟨r, hr, rfl⟩ | h
    · by_cases e : r.1 = house
      · rw [show linkRow house goal many r = (r.1, r.2.1, List.replicate many (goal, 1)) from if_pos e] at hx
        rw [(List.mem_replicate.mp hx).2]
        exact Int.le_refl _
      · rw [link_ne e] at hx
        exact L.G1.pos r hr x hx
    · exact L.G2.pos R h x hx
/-- states of both, put together -/
def comb (other : List (Row α)) (house : α) (f1 : α → Nat) (k : Nat) (f2 : α → Nat) : α → Nat := fun z => if z ∈ other.map (fun r => r.1) then f2 z else if z = house then k else f1 z
theorem comb2 {f1 f2 : α → Nat} {k : Nat} {q : Row α} (hq : q ∈ other) : comb other house f1 k f2 q.1 = f2 q.1 := if_pos (List.mem_map.mpr ⟨q, hq, rfl⟩)
theorem Linked.not2 (L : Linked one other B house goal many r0) {r : Row α} (hr : r ∈ one) : r.1 ∉ other.map fun r => r.1 := fun h => by
  obtain ⟨q, hq, e⟩ := List.mem_map.mp h
  exact L.dis r hr q hq e.symm
theorem Linked.combH (L : Linked one other B house goal many r0) {f1 f2 : α → Nat} {k : Nat} : comb other house f1 k f2 house = k := by
  have := L.not2 L.hr
  rw [L.hn] at this
  unfold comb
  rw [if_neg this, if_pos rfl]
theorem Linked.comb1 (L : Linked one other B house goal many r0) {f1 f2 : α → Nat} {k : Nat} {r : Row α} (hr : r ∈ one) (hn : r.1 ≠ house) : comb other house f1 k f2 r.1 = f1 r.1 := by
  unfold comb
  rw [if_neg (L.not2 hr), if_neg hn]
theorem Linked.got1 (L : Linked one other B house goal many r0) {f1 f2 : α → Nat} {k : Nat} (z : α) : got one (comb other house f1 k f2) z = got one f1 z := got_same (fun r hr => by
  by_cases e : r.1 = house
  · exact Or.inl (L.empty r hr e)
  · exact Or.inr (L.comb1 hr e)) z
theorem Linked.heldC1 (L : Linked one other B house goal many r0) {f1 f2 : α → Nat} {k : Nat} {r : Row α} (hr : r ∈ one) : held one c (comb other house f1 k f2) r = held one c f1 r := by
  unfold held
  rw [L.got1]
  by_cases e : r.1 = house
  · rw [L.empty r hr e]
    unfold outS
    simp
  · rw [L.comb1 hr e]
theorem heldC2 {f1 f2 : α → Nat} {k : Nat} {q : Row α} (hq : q ∈ other) (d : α → Int) : held other d (comb other house f1 k f2) q = held other d f2 q := by
  unfold held
  rw [got_congr (fun r hr => comb2 hr) q.1, comb2 hq]
theorem Linked.within (L : Linked one other B house goal many r0) {f1 f2 : α → Nat} {k : Nat} (hk : k ≤ many) (w1 : ∀ r ∈ one, r.1 ≠ house → f1 r.1 ≤ r.2.2.length) (w2 : Within other f2) : Within B (comb other house f1 k f2) := fun R hR => by
  rcases L.mem.1 hR with ⟨r, hr, rfl⟩ | h
  · by_cases e : r.1 = house
    · rw [show linkRow house goal many r = (r.1, r.2.1, List.replicate many (goal, 1)) from if_pos e]
      dsimp only
      rw [e, L.combH, List.length_replicate]
      exact hk
    · rw [link_ne e, L.comb1 hr e]
      exact w1 r hr e
  · rw [comb2 h]
    exact w2 R h
theorem Linked.memH (L : Linked one other B house goal many r0) : (r0.1, r0.2.1, List.replicate many (goal, 1)) ∈ B := L.mem.2 (Or.inl ⟨r0, L.hr, (if_pos L.hn).symm⟩)
theorem Linked.mem1 (L : Linked one other B house goal many r0) {r : Row α} (hr : r ∈ one) (hn : r.1 ≠ house) : r ∈ B := L.mem.2 (Or.inl ⟨r, hr, (link_ne hn).symm⟩)
theorem Linked.mem2 (L : Linked one other B house goal many r0) {q : Row α} (hq : q ∈ other) : q ∈ B := L.mem.2 (Or.inr hq)
/-- what a state of both says of its parts -/
theorem Linked.stable_parts (L : Linked one other B house goal many r0) {g : α → Nat} (w : Within B g) (st : Stable B c g) : g house ≤ many ∧ Within other g ∧ (∀ r ∈ one, g r.1 ≤ if r.1 = house then many else r.2.2.length) ∧ Stable one c g ∧ (g house = many ∨ held one c g r0 - (g house : Int) < 1) ∧ Stable other (addC c goal (g house : Int)) g := by
  have gH : g house ≤ many := by
    have := w _ L.memH
    dsimp only at this
    rw [List.length_replicate, L.hn] at this
    exact this
  have mn : min (g house) many = g house := Nat.min_eq_left gH
  refine ⟨gH, fun q hq => w q (L.mem2 hq), fun r hr => ?_, fun r hr x hx => ?_, ?_, fun q hq x hx => ?_⟩
  · split
    · rename_i e
      rw [e]
      exact gH
    · rename_i e
      exact w r (L.mem1 hr e)
  · by_cases e : r.1 = house
    · rw [L.empty r hr e] at hx
      cases hx
    · have h1 := st r (L.mem1 hr e) x hx
      rw [← L.held1 hr e, link_ne e]
      exact h1
  · rcases Nat.lt_or_ge (g house) many with h1 | h1
    · right
      have h2 := st _ L.memH (goal, 1) (by
        dsimp only
        rw [L.hn, List.getElem?_replicate, if_pos h1])
      have h3 := L.heldH (c := c) (f := g)
      rw [show linkRow house goal many r0 = (r0.1, r0.2.1, List.replicate many (goal, 1)) from if_pos L.hn, mn] at h3
      rw [h3] at h2
      exact h2
    · left
      omega
  · have h1 := st q (L.mem2 hq) x hx
    rw [L.held2 hq, mn] at h1
    exact h1
theorem Linked.stable_of (L : Linked one other B house goal many r0) {g : α → Nat} (gH : g house ≤ many) (s1 : Stable one c g) (sH : g house = many ∨ held one c g r0 - (g house : Int) < 1) (s2 : Stable other (addC c goal (g house : Int)) g) : Stable B c g := fun R hR x hx => by
  have mn : min (g house) many = g house := Nat.min_eq_left gH
  rcases L.mem.1 hR with ⟨r, hr, rfl⟩ | h
  · by_cases e : r.1 = house
    · have er := row_eq L.G1.nd hr L.hr (by rw [e, L.hn])
      subst er
      rw [L.heldH, mn]
      rw [show linkRow house goal many r = (r.1, r.2.1, List.replicate many (goal, 1)) from if_pos e] at hx
      dsimp only at hx
      rw [e] at hx
      have hlt := (List.getElem?_eq_some_iff.mp hx).1
      rw [List.length_replicate] at hlt
      rw [List.getElem?_replicate, if_pos hlt] at hx
      cases hx
      rcases sH with k | k
      · omega
      · exact k
    · rw [L.held1 hr e]
      rw [link_ne e] at hx
      exact s1 r hr x hx
  · rw [L.held2 h, mn]
    exact s2 R h x hx
theorem stable_comb1 (L : Linked one other B house goal many r0) {f1 f2 : α → Nat} {k : Nat} (s : Stable one c f1) : Stable one c (comb other house f1 k f2) := fun r hr x hx => by
  by_cases e : r.1 = house
  · rw [L.empty r hr e] at hx
    cases hx
  · rw [L.comb1 hr e] at hx
    rw [L.heldC1 hr]
    exact s r hr x hx
theorem stable_comb2 {f1 f2 : α → Nat} {k : Nat} {d : α → Int} (s : Stable other d f2) : Stable other d (comb other house f1 k f2) := fun q hq x hx => by
  rw [comb2 hq] at hx
  rw [heldC2 hq]
  exact s q hq x hx
/-- a function that agrees with g on the rows but the house's, whose payments are none -/
theorem Linked.least (L : Linked one other B house goal many r0) {f1 f2 : α → Nat} {come : Nat} (h1 : Least one c f1) (hc : (come : Int) = min (many : Int) (held one c f1 r0)) (h2 : Least other (addC c goal (come : Int)) f2) : Least B c (comb other house f1 come f2) := by
  have cm : come ≤ many := by omega
  refine ⟨⟨L.within cm (fun r hr _ => h1.1.1 r hr) h2.1.1, fun g wg sg R hR => ?_⟩, L.stable_of (by rw [L.combH]; exact cm) (stable_comb1 L h1.2) ?_ (by rw [L.combH]; exact stable_comb2 h2.2)⟩
  · obtain ⟨gH, w2, w1, s1, sH, s2⟩ := L.stable_parts wg sg
    -- the one's part
    have le1 : Leq one f1 (fun z => if z = house then 0 else g z) := h1.1.2 _ (fun r hr => by
      show (if r.1 = house then 0 else g r.1) ≤ r.2.2.length
      split
      · exact Nat.zero_le _
      · rename_i e
        have := w1 r hr
        rw [if_neg e] at this
        exact this) (fun r hr x hx => by
      by_cases e : r.1 = house
      · rw [L.empty r hr e] at hx
        cases hx
      · have hx : r.2.2[if r.1 = house then 0 else g r.1]? = some x := hx
        rw [if_neg e] at hx
        have eh : held one c (fun z => if z = house then 0 else g z) r = held one c g r := by
          unfold held
          have ee : (fun z => if z = house then 0 else g z) r.1 = g r.1 := if_neg e
          rw [ee, got_same (g := g) fun q hq => by
            by_cases e2 : q.1 = house
            · exact Or.inl (L.empty q hq e2)
            · exact Or.inr (if_neg e2)]
        rw [eh]
        exact s1 r hr x hx)
    have hle : held one c f1 r0 ≤ held one c g r0 := by
      have hg : got one f1 r0.1 ≤ got one g r0.1 := by
        have := got_mono L.G1 le1 r0.1
        rw [got_same (f := fun z => if z = house then 0 else g z) (g := g) fun q hq => by
          by_cases e2 : q.1 = house
          · exact Or.inl (L.empty q hq e2)
          · exact Or.inr (if_neg e2)] at this
        exact this
      unfold held
      rw [L.hp]
      have : ∀ n, outS ([] : List (α × Int)) n = 0 := fun n => by
        unfold outS
        simp
      rw [this, this]
      omega
    have comeg : come ≤ g house := by omega
    have le2 : Leq other f2 g := h2.1.2 g w2 (stable_less (fun q _ => by unfold addC; split <;> omega) s2)
    rcases L.mem.1 hR with ⟨r, hr, rfl⟩ | h
    · rw [link_name]
      by_cases e : r.1 = house
      · rw [e, L.combH]
        exact comeg
      · rw [L.comb1 hr e]
        have := le1 r hr
        dsimp only at this
        rw [if_neg e] at this
        exact this
    · rw [comb2 h]
      exact le2 R h
  · rw [L.combH, L.heldC1 L.hr]
    omega
def cutH (house : α) (g : α → Nat) : α → Nat := fun z => if z = house then 0 else g z
theorem cut_ne {g : α → Nat} {z : α} (h : z ≠ house) : cutH house g z = g z := if_neg h
theorem cut_same {g : α → Nat} : cutH house g house = 0 := if_pos rfl
theorem out_nil (n : Nat) : outS ([] : List (α × Int)) n = 0 := by
  unfold outS
  simp
theorem Linked.held_cut (L : Linked one other B house goal many r0) {g : α → Nat} {r : Row α} (hr : r ∈ one) : held one c (cutH house g) r = held one c g r := by
  unfold held
  rw [got_same (g := g) fun q hq => by
    by_cases e : q.1 = house
    · exact Or.inl (L.empty q hq e)
    · exact Or.inr (cut_ne e)]
  by_cases e : r.1 = house
  · rw [L.empty r hr e, out_nil, out_nil]
  · rw [cut_ne e]
theorem Linked.within_cut (L : Linked one other B house goal many r0) {g : α → Nat} (w : ∀ r ∈ one, r.1 ≠ house → g r.1 ≤ r.2.2.length) : Within one (cutH house g) := fun r hr => by
  by_cases e : r.1 = house
  · rw [e, cut_same]
    exact Nat.zero_le _
  · rw [cut_ne e]
    exact w r hr e
theorem Linked.great (L : Linked one other B house goal many r0) {f1 f2 : α → Nat} {come : Nat} (h1 : Great one c f1) (hc : (come : Int) = min (many : Int) (held one c f1 r0)) (h2 : Great other (addC c goal (come : Int)) f2) : Great B c (comb other house f1 come f2) := by
  have cm : come ≤ many := by omega
  have mn : min come many = come := Nat.min_eq_left cm
  refine ⟨⟨L.within cm (fun r hr _ => h1.1.1 r hr) h2.1.1, fun g wg fg R hR => ?_⟩, fun R hR => ?_⟩
  · have gH : g house ≤ many := by
      have := wg _ L.memH
      dsimp only at this
      rw [List.length_replicate, L.hn] at this
      exact this
    have mg : min (g house) many = g house := Nat.min_eq_left gH
    have fH : 0 ≤ held one c g r0 - (g house : Int) := by
      have h3 := L.heldH (c := c) (f := g)
      rw [mg] at h3
      rw [← h3]
      exact fg _ (L.mem.2 (Or.inl ⟨r0, L.hr, rfl⟩))
    have f1' : Feas one c (cutH house g) := fun r hr => by
      rw [L.held_cut hr]
      by_cases e : r.1 = house
      · have er := row_eq L.G1.nd hr L.hr (by rw [e, L.hn])
        subst er
        omega
      · rw [← L.held1 (goal := goal) (many := many) (B := B) hr e]
        exact fg _ (L.mem.2 (Or.inl ⟨r, hr, rfl⟩))
    have le1 := h1.1.2 _ (L.within_cut fun r hr e => wg r (L.mem1 hr e)) f1'
    have hle : held one c g r0 ≤ held one c f1 r0 := by
      rw [← L.held_cut L.hr]
      have := got_mono L.G1 le1 r0.1
      unfold held
      rw [L.hp, out_nil, out_nil]
      omega
    have comeg : g house ≤ come := by omega
    have le2 : Leq other g f2 := h2.1.2 g (fun q hq => wg q (L.mem2 hq)) fun q hq => by
      have h3 := fg q (L.mem2 hq)
      rw [L.held2 hq, mg] at h3
      unfold held addC at h3 ⊢
      split at h3 <;> split <;> omega
    rcases L.mem.1 hR with ⟨r, hr, rfl⟩ | h
    · rw [link_name]
      by_cases e : r.1 = house
      · rw [e, L.combH]
        exact comeg
      · rw [L.comb1 hr e]
        have := le1 r hr
        rw [cut_ne e] at this
        exact this
    · rw [comb2 h]
      exact le2 R h
  · rcases L.mem.1 hR with ⟨r, hr, rfl⟩ | h
    · by_cases e : r.1 = house
      · have er := row_eq L.G1.nd hr L.hr (by rw [e, L.hn])
        subst er
        rw [L.heldH, L.combH, L.heldC1 hr, mn]
        omega
      · rw [L.held1 hr e, L.heldC1 hr]
        exact h1.2 r hr
    · rw [L.held2 h, L.combH, heldC2 h, mn]
      exact h2.2 R h
def EqOn (qs : List (Row α)) (f g : α → Nat) : Prop := ∀ r ∈ qs, f r.1 = g r.1
theorem Linked.eq_iff (L : Linked one other B house goal many r0) {f1 f2 g1 g2 : α → Nat} {k m : Nat} : EqOn B (comb other house f1 k f2) (comb other house g1 m g2) ↔ (∀ r ∈ one, r.1 ≠ house → f1 r.1 = g1 r.1) ∧ k = m ∧ EqOn other f2 g2 := by
  constructor
  · intro h
    refine ⟨fun r hr e => ?_, ?_, fun q hq => ?_⟩
    · have := h r (L.mem1 hr e)
      rw [L.comb1 hr e, L.comb1 hr e] at this
      exact this
    · have := h _ L.memH
      dsimp only at this
      rw [L.hn, L.combH, L.combH] at this
      exact this
    · have := h q (L.mem2 hq)
      rw [comb2 hq, comb2 hq] at this
      exact this
  · rintro ⟨h1, h2, h3⟩ R hR
    rcases L.mem.1 hR with ⟨r, hr, rfl⟩ | h
    · rw [link_name]
      by_cases e : r.1 = house
      · rw [e, L.combH, L.combH, h2]
      · rw [L.comb1 hr e, L.comb1 hr e]
        exact h1 r hr e
    · rw [comb2 h, comb2 h]
      exact h3 R h
/-- all of z's payments -/
def lenOf (qs : List (Row α)) (z : α) : Nat := ((qs.find? fun r => decide (r.1 = z)).map fun r => r.2.2.length).getD 0
theorem lenOf_at : ∀ {qs : List (Row α)} {r : Row α}, (qs.map fun r => r.1).Nodup → r ∈ qs → lenOf qs r.1 = r.2.2.length
  | q :: l, r, nd, h => by
    obtain ⟨h1, h2⟩ := List.nodup_cons.mp nd
    unfold lenOf
    by_cases e : q.1 = r.1
    · have := row_eq nd h List.mem_cons_self e.symm
      subst this
      rw [List.find?_cons_of_pos (by simp)]
      rfl
    · rw [List.find?_cons_of_neg (by simp [e])]
      rcases List.mem_cons.mp h with a | a
      · exact absurd (by rw [a]) e
      · exact lenOf_at h2 a
theorem all_stable {qs : List (Row α)} {d : α → Int} {f : α → Nat} (h : ∀ r ∈ qs, f r.1 = r.2.2.length) : Stable qs d f := fun r hr x hx => by
  rw [h r hr, List.getElem?_eq_none (Nat.le_refl _)] at hx
  cases hx
/-- a goal of the one alone -/
theorem Linked.reach1 (L : Linked one other B house goal many r0) {gl : α → Nat} (gh : gl house = 0) (go : ∀ q ∈ other, gl q.1 = 0) : Reach B c gl ↔ Reach one c gl := by
  constructor
  · intro h g wg sg r hr
    have full : ∀ q ∈ other, lenOf other q.1 = q.2.2.length := fun q hq => lenOf_at L.G2.nd hq
    have := h (comb other house g many (lenOf other)) (L.within (Nat.le_refl _) (fun r hr _ => wg r hr) fun q hq => Nat.le_of_eq (full q hq))
      (L.stable_of (by rw [L.combH]; exact Nat.le_refl _) (stable_comb1 L sg) (Or.inl L.combH) (stable_comb2 (all_stable full)))
    by_cases e : r.1 = house
    · rw [e, gh]
      exact Nat.zero_le _
    · have := this r (L.mem1 hr e)
      rw [L.comb1 hr e] at this
      exact this
  · intro h g wg sg R hR
    obtain ⟨gH, w2, w1, s1, _, _⟩ := L.stable_parts wg sg
    rcases L.mem.1 hR with ⟨r, hr, rfl⟩ | hq
    · rw [link_name]
      by_cases e : r.1 = house
      · rw [e, gh]
        exact Nat.zero_le _
      · have := h (cutH house g) (L.within_cut fun q hq e2 => wg q (L.mem1 hq e2)) (fun q hq x hx => by
          rw [L.held_cut hq]
          by_cases e2 : q.1 = house
          · rw [L.empty q hq e2] at hx
            cases hx
          · rw [cut_ne e2] at hx
            exact s1 q hq x hx) r hr
        rw [cut_ne e] at this
        exact this
    · rw [go R hq]
      exact Nat.zero_le _
/-- a goal of the other alone -/
theorem Linked.reach2 (L : Linked one other B house goal many r0) {gl f1 f2 : α → Nat} {come : Nat} (g1 : ∀ r ∈ one, gl r.1 = 0) (h : Least B c (comb other house f1 come f2)) : Reach B c gl ↔ Leq other gl f2 := by
  rw [reach_iff h]
  constructor
  · intro k q hq
    have := k q (L.mem2 hq)
    rw [comb2 hq] at this
    exact this
  · intro k R hR
    rcases L.mem.1 hR with ⟨r, hr, rfl⟩ | hq
    · rw [link_name, g1 r hr]
      exact Nat.zero_le _
    · rw [comb2 hq]
      exact k R hq
end
end KQ
namespace NM
/-- the letters but q -/
def L25 : List Nat := [97, 98, 99, 100, 101, 102, 103, 104, 105, 106, 107, 108, 109, 110, 111, 112, 114, 115, 116, 117, 118, 119, 120, 121, 122]
def textOf (body : List Nat) (cut c : Nat) : List Nat := body.take cut ++ [c] ++ body.drop cut
def nameOf (t : List Nat) (at' : Nat) : List Nat := if (t.drop at').take 1 = [117] then t ++ [113] else t.take at' ++ [113] ++ t.drop at'
theorem textOf_len (b : List Nat) (cut c : Nat) : (textOf b cut c).length = b.length + 1 := by
  unfold textOf
  simp only [List.length_append, List.length_take, List.length_drop, List.length_singleton]
  omega
theorem textOf_at (b : List Nat) (cut c : Nat) : (textOf b cut c)[min cut b.length]? = some c := by
  unfold textOf
  rw [List.append_assoc, List.getElem?_append_right (by rw [List.length_take]; exact Nat.le_refl _), List.length_take, Nat.sub_self]
  rfl
theorem textOf_inj {b b' : List Nat} {cut c c' : Nat} (h : textOf b cut c = textOf b' cut c') : c = c' := by
  have hl : b.length = b'.length := by
    have := congrArg List.length h
    rw [textOf_len, textOf_len] at this
    omega
  have h1 := textOf_at b cut c
  rw [h, hl, textOf_at] at h1
  exact (Option.some.inj h1).symm
theorem mem_textOf {b : List Nat} {cut c x : Nat} : x ∈ textOf b cut c ↔ x ∈ b ∨ x = c := by
  unfold textOf
  rw [List.mem_append, List.mem_append, List.mem_singleton]
  constructor
  · rintro ((h | h) | h)
    · exact Or.inl (List.mem_of_mem_take h)
    · exact Or.inr h
    · exact Or.inl (List.mem_of_mem_drop h)
  · rintro (h | h)
    · rw [← List.take_append_drop cut b, List.mem_append] at h
      rcases h with h | h
      · exact Or.inl (Or.inl h)
      · exact Or.inr h
    · exact Or.inl (Or.inr h)
theorem filt {t : List Nat} (h : 113 ∉ t) : t.filter (fun x => x != 113) = t := List.filter_eq_self.mpr fun x hx => by
  rw [bne_iff_ne]
  intro e
  exact h (e ▸ hx)
theorem nameOf_filt {t : List Nat} {at' : Nat} (h : 113 ∉ t) : (nameOf t at').filter (fun x => x != 113) = t := by
  unfold nameOf
  split
  · rw [List.filter_append, filt h]
    simp
  · rw [List.filter_append, List.filter_append, filt fun k => h (List.mem_of_mem_take k), filt fun k => h (List.mem_of_mem_drop k)]
    simp
theorem nameOf_len (t : List Nat) (at' : Nat) : (nameOf t at').length = t.length + 1 := by
  unfold nameOf
  split
  · simp
  · simp only [List.length_append, List.length_take, List.length_drop, List.length_singleton]
    omega
theorem mem_nameOf {t : List Nat} {at' x : Nat} : x ∈ nameOf t at' ↔ x ∈ t ∨ x = 113 := by
  unfold nameOf
  split
  · rw [List.mem_append, List.mem_singleton]
  · rw [List.mem_append, List.mem_append, List.mem_singleton]
    constructor
    · rintro ((h | h) | h)
      · exact Or.inl (List.mem_of_mem_take h)
      · exact Or.inr h
      · exact Or.inl (List.mem_of_mem_drop h)
    · rintro (h | h)
      · rw [← List.take_append_drop at' t, List.mem_append] at h
        rcases h with h | h
        · exact Or.inl (Or.inl h)
        · exact Or.inr h
      · exact Or.inl (Or.inr h)
def stepOk (s : Int) : Prop := s = 1 ∨ s = 2 ∨ s = 3 ∨ s = 4 ∨ s = 6 ∨ s = 7 ∨ s = 8 ∨ s = 9 ∨ s = 11
theorem own_inj {shift s : Int} (hs : stepOk s) {k m : Nat} (hk : k < 25) (hm : m < 25) (h : (shift + s * (k : Int)) % 25 = (shift + s * (m : Int)) % 25) : k = m := by
  rcases hs with rfl | rfl | rfl | rfl | rfl | rfl | rfl | rfl | rfl <;> omega
theorem L25_nodup : L25.Nodup := by decide
theorem L25_noq : 113 ∉ L25 := by decide
/-- a made name: its body of letters, where it is cut, its own letter, where q stands -/
structure Made (cut : Nat) (shift s : Int) (k : Nat) (n : List Nat) : Prop where
  ex : ∃ (b : List Nat) (c at' : Nat), b.length ≤ 5 ∧ (∀ x ∈ b, x ∈ L25) ∧ L25[((shift + s * (k : Int)) % 25).toNat]? = some c ∧ n = nameOf (textOf b cut c) at'
theorem Made.ne {cut : Nat} {shift s : Int} {k m : Nat} {n n' : List Nat} (hs : stepOk s) (hk : k < 25) (hm : m < 25) (h : Made cut shift s k n) (h' : Made cut shift s m n') (e : n = n') : k = m := by
  obtain ⟨b, c, a, h1, h2, h3, h4⟩ := h.ex
  obtain ⟨b', c', a', g1, g2, g3, g4⟩ := h'.ex
  have noq : 113 ∉ textOf b cut c := fun hx => by
    rcases mem_textOf.mp hx with z | z
    · exact L25_noq (h2 _ z)
    · rw [← z] at h3
      exact L25_noq (List.mem_of_getElem? h3)
  have noq' : 113 ∉ textOf b' cut c' := fun hx => by
    rcases mem_textOf.mp hx with z | z
    · exact L25_noq (g2 _ z)
    · rw [← z] at g3
      exact L25_noq (List.mem_of_getElem? g3)
  have ht : textOf b cut c = textOf b' cut c' := by
    rw [← nameOf_filt (at' := a) noq, ← h4, e, g4, nameOf_filt noq']
  have hc := textOf_inj ht
  subst hc
  have i1 : ((shift + s * (k : Int)) % 25).toNat < L25.length := (List.getElem?_eq_some_iff.mp h3).1
  have := (List.getElem?_inj i1 L25_nodup).mp (h3.trans g3.symm)
  refine own_inj (shift := shift) hs hk hm ?_
  have e1 := Int.emod_nonneg (shift + s * (k : Int)) (show (25 : Int) ≠ 0 by decide)
  have e2 := Int.emod_nonneg (shift + s * (m : Int)) (show (25 : Int) ≠ 0 by decide)
  omega
theorem Made.facts {cut : Nat} {shift s : Int} {k : Nat} {n : List Nat} (h : Made cut shift s k n) : 1 ≤ n.length ∧ n.length ≤ 7 ∧ 113 ∈ n ∧ ∀ x ∈ n, x ∈ L25 ∨ x = 113 := by
  obtain ⟨b, c, a, h1, h2, h3, h4⟩ := h.ex
  subst h4
  rw [nameOf_len, textOf_len]
  refine ⟨by omega, by omega, mem_nameOf.mpr (Or.inr rfl), fun x hx => ?_⟩
  rcases mem_nameOf.mp hx with z | z
  · rcases mem_textOf.mp z with y | y
    · exact Or.inl (h2 x y)
    · rw [y]
      exact Or.inl (List.mem_of_getElem? h3)
  · exact Or.inr z
end NM
/-! enumerate(tuple); zip of a tuple and a list -/
namespace NQ
open PySem PySem.Spec PyProof.Rows L2
open PySem.AutoSeq1 (wpAny_loadPart')
theorem meets_enumT (t : Addr) (its : Array Value) : Meets (Builtin.«enumerate.__new__» ⟨[.type "enumerate", .ref t], []⟩) (fun _ R s => s.heap.IsTuple t its ∧
    R (.ok (.ret (.ref (s.heap.push { cls := .type "tuple_iterator", data := .fields #[.ref t, .int 0 0] }).objs.size)))
      { s with heap := (s.heap.push { cls := .type "tuple_iterator", data := .fields #[.ref t, .int 0 0] }).push { cls := .type "enumerate", data := .fields #[.none, .bool false, .ref s.heap.objs.size, rawInt 0, .none, .none] } }) :=
  .of_wp fun prog w A R s h => by
    obtain ⟨hp, g, d, tk, os⟩ := s
    obtain ⟨ht, h⟩ := h
    have sub := sub_enumerate
    have tup : Heap.IsTuple (Shared.heap ⟨hp, g, d, tk, os⟩) t its := ht
    wp_walk using wpAny_pyIter_tuple tup
    refine wpAny_stack_any fun st => wpAny_pure ?_
    split
    · rename_i c _ _ _ _ _
      cases (c == Value.type "enumerate")
      · wp_walk using wpAny_pyIter_tuple tup
        exact ⟨_, rfl, h⟩
      · wp_walk using wpAny_pyIter_tuple tup
        exact ⟨_, rfl, h⟩
    · wp_walk using wpAny_pyIter_tuple tup
      exact ⟨_, rfl, h⟩
theorem call_enumT {prog : Program} {w : World} {A : Around} {E : Value → Shared → Prop} {s : Shared} {t : Addr} {its : Array Value} {Q : Value → Shared → Prop} (ht : s.heap.IsTuple t its)
    (h : ∀ h', IsEnum h' (s.heap.objs.size + 1) s.heap.objs.size 0 .none → h'.IsTupleIter s.heap.objs.size t 0 → (∀ b o, s.heap.get? b = some o → h'.get? b = some o) → Q (.ref (s.heap.objs.size + 1)) { s with heap := h' }) :
    wpAny (model prog w) A (call (.type "enumerate") [.ref t]) Q E s := by
  refine callType_new F.called_enumerate (by decide) (F.typeCall_enumerate_1 _) (F.newCall_enumerate_1 _) (fun obj => F.args_object_init_2 obj _) F.entry_enumerate_new (meets_enumT t its) ⟨ht, ?_⟩
  have z1 : (s.heap.push { cls := .type "tuple_iterator", data := .fields #[.ref t, .int 0 0] }).objs.size = s.heap.objs.size + 1 := Heap.size_push ..
  show _ ∧ _
  rw [z1]
  have he := Heap.get?_push_size (s.heap.push { cls := .type "tuple_iterator", data := .fields #[.ref t, .int 0 0] }) (o := { cls := .type "enumerate", data := .fields #[.none, .bool false, .ref s.heap.objs.size, rawInt 0, .none, .none] }) rfl
  rw [z1] at he
  exact ⟨⟨_, he, rfl⟩, h _ he ⟨_, Heap.get?_push_of_some _ (Heap.get?_push_size _ rfl), rfl, rfl⟩ fun b o x => Heap.get?_push_of_some _ (Heap.get?_push_of_some _ x)⟩
/-- the tuple at a, each item in a new pair with its number -/
def IteT (K : PySem.W.Frag) (a : Addr) : It :=
  ⟨fun i H => ∃ (xs : List V) (x : V), SqT K H a xs ∧ xs[i]? = some x, fun i H v H' => ∃ T x, v = .ref T ∧ H T = none ∧ H' = upd H T (.tup [.int (i : Nat), x]) ∧ ∀ xs, SqT K H a xs → xs[i]? = some x, fun i H => ∃ xs : List V, SqT K H a xs ∧ xs.length = i⟩
theorem turn_enumT {P : Program} {w : World} {K : PySem.W.Frag} {elts : List Expr} {kk : Nat} {tpos : Pos} (a e it : Addr) :
    Turn P w K (.Tuple elts kk tpos) (IteT K a) [e, it] e (fun i h => (∃ old, IsEnum h e it ((i : Nat) : Int) old) ∧ h.IsTupleIter it a i ∧ e ≠ it ∧ a ≠ it ∧ a ≠ e) where
  mem := by simp
  obj := fun i h ⟨⟨old, he⟩, ⟨o, ho, _, hd⟩, _⟩ b hb => by
    rcases List.mem_cons.mp hb with z | z
    · rw [z]
      exact ⟨_, he, fun v q => nomatch q⟩
    · rw [List.mem_singleton.mp z]
      exact ⟨o, ho, fun v q => by rw [hd] at q; cases q⟩
  keep := fun i h h' ⟨⟨old, he⟩, hi, rest⟩ k => ⟨⟨old, k e (by simp) _ he⟩, hi.at fun o q => k it (by simp) o q, rest⟩
  item := by
    intro X hP hw hK hc i pins s σ H E I hf st hg
    subst hP hw hK
    obtain ⟨⟨old, he⟩, hit, hne, nai, nae⟩ := st
    obtain ⟨xs, x, hq, hx⟩ := hg
    obtain ⟨its, rv, p, hz⟩ := I.tuple hq
    obtain ⟨u, hu, ru⟩ := rv.get hx
    have hel : e < s.heap.objs.size := Heap.lt_size he
    have hil : it < s.heap.objs.size := by
      obtain ⟨_, q, _⟩ := hit
      exact Heap.lt_size q
    have hi : i < its.toArray.size := by
      have := (List.getElem?_eq_some_iff.mp hu).1
      simpa using this
    have drw := Draws.tuple (prog := X.prog) (w := X.w) (A := X.A.in1) (show X.A.in1.handled = none from I.ok.hd hc) it a nai its.toArray
    refine wpAny_pyNext_enum_itemD drw he ⟨hit, p⟩ hi hne (by simp [hne, Ne.symm nae]) fun y h' tk hy ho hst hT hsz hk => ?_
    obtain rfl : y = u := by
      have e2 : its.toArray[i]? = some u := by simpa using hu
      rw [e2] at hy
      exact (Option.some.inj hy).symm
    refine ⟨_, rfl, wpAny_letOwnedTupleGo_enum (s := { s with heap := h', toks := tk + 1 }) ho fun h'' he' sb => ?_⟩
    have hT2 := (sb.2 _ (Nat.ne_of_gt hel)).trans hT
    have new : ObjOk X.prog X.w (upd H s.heap.objs.size (.tup [.int (i : Nat), x])) h'' s.heap.objs.size (.tup [.int (i : Nat), x]) :=
      ⟨by show 2 ≤ sizeLine; decide, [.int i tk, y], .cons ⟨_, rfl⟩ (.cons ru .nil), ⟨_, hT2, rfl, _, rfl⟩⟩
    have I1 : Inv X pins σ (upd H s.heap.objs.size (.tup [.int (i : Nat), x])) { s with heap := h'', toks := tk + 1 } :=
      I.turnedNew (ch := [e, it]) (fun b ob hb q => (sb.2 b (fun z => hb (by simp [z]))).trans (hk b ob (fun z => hb (by simp [z])) (fun z => hb (by simp [z])) q)) hf (Nat.le_refl _) new
    refine ⟨.ref s.heap.objs.size, _, I1, rfl, ⟨_, x, rfl, I.hok.fresh (Nat.le_refl _), rfl, fun ys hy => by rw [I.tuple_inj hy hq]; exact hx⟩, ⟨⟨y, ?_⟩, hst.1.at fun o q => (sb.2 it (Ne.symm hne)).trans q, hne, nai, nae⟩, fun b hb => ?_⟩
    · have e1 : ((i + 1 : Nat) : Int) = (i : Int) + 1 := by omega
      rw [e1]
      exact he'
    · have hb' : b < s.heap.objs.size := by
        rcases List.mem_cons.mp hb with z | z
        · rw [z]
          exact hel
        · rw [List.mem_singleton.mp z]
          exact hil
      rw [upd_ne (Nat.ne_of_lt hb')]
      exact (hf b hb).1
  done := by
    intro X hP hw hK hc i pins s σ H E I hf st hg
    subst hP hw hK
    obtain ⟨⟨old, he⟩, hit, hne, nai, nae⟩ := st
    obtain ⟨xs, hq, hx⟩ := hg
    obtain ⟨its, rv, p, hz⟩ := I.tuple hq
    obtain ⟨f0, f1, f2, f3, f4, f5⟩ := hf it (by simp)
    have hl : its.toArray.size = i := by
      rw [List.size_toArray, ← rv.length, hx]
    have drw := Draws.tuple (prog := X.prog) (w := X.w) (A := X.A.in1) (show X.A.in1.handled = none from I.ok.hd hc) it a nai its.toArray
    refine wpAny_pyNext_enum_endD drw he ⟨by rw [hl]; exact hit, p⟩ fun h' eb => ⟨rfl, I.turned (t' := s.toks) (fun b o hb q => eb b o hb q) f0 f1 f3 f4 f5⟩
  self := fun A i s Q E st h => by
    obtain ⟨⟨_, he⟩, _⟩ := st
    exact wpAny_pyIter_enum he h
def iEnumT (K : PySem.W.Frag) (ta : TA) : TI := fun σ H R => ta σ H fun vs H1 => ∃ a xs, vs = [.ref a] ∧ SqT K H1 a xs ∧ R (IteT K a) H1
theorem pi_enumT {X : Cx} {e : Expr} {ta : TA} {p pos tpos : Pos} {elts : List Expr} {kk : Nat} (hg : Gl X "enumerate") (hm : X.mg "enumerate" = none) (ha : PA X [e] ta) (hs : starEach [e] X.env = [(false, eval e X.env)] := by rfl) :
    PI X (.Tuple elts kk tpos) (.Call (.Name "enumerate" p) [e] [] pos) (iEnumT X.K ta) := by
  refine ⟨fun pins s σ H R I h => Call_ (ld_blt I hg hm boot_enumerate (PyProof.Rows.callWith_type1 (thn (ha.run pos pins s σ H _ I h) fun us s1 hh => ?_) hs rfl))⟩
  obtain ⟨vs, H1, I1, r1, a, xs, rfl, hq, q⟩ := hh
  cases r1 with
  | cons r rr =>
    cases rr
    cases r
    obtain ⟨its, rv, p', hz⟩ := I1.tuple hq
    have ltA : a < s1.heap.objs.size := by
      obtain ⟨_, z, _⟩ := id p'
      exact Heap.lt_size z
    refine call_enumT (show s1.heap.IsTuple a its.toArray from p') fun h' he hit hk => wpAny_pyIter_enum he ?_
    have I2 : Inv X pins σ H1 { s1 with heap := h' } := I1.kept (t' := s1.toks) hk
    refine ⟨s1.heap.objs.size + 1, [s1.heap.objs.size + 1, s1.heap.objs.size], _, _, H1, rfl, I2, turn_enumT a (s1.heap.objs.size + 1) s1.heap.objs.size, ⟨⟨.none, he⟩, hit, Nat.succ_ne_self _, Nat.ne_of_lt ltA, Nat.ne_of_lt (Nat.lt_succ_of_lt ltA)⟩, fun b hb => ?_, q⟩
    have hle : s1.heap.objs.size ≤ b := by
      rcases List.mem_cons.mp hb with z | z
      · rw [z]
        exact Nat.le_add_right _ _
      · rw [List.mem_singleton.mp z]
        exact Nat.le_refl _
    exact I1.fpOk hle (I1.hok.fresh hle)
end NQ
/-! zip of a tuple and a list -/
namespace NQ
open PySem PySem.W PySem.Spec PyProof.Rows L2
open PySem.AutoSeq1 (wpAny_loadPart')
abbrev zM1 (h : Heap) (t : Addr) : Heap := h.push { cls := .type "tuple_iterator", data := .fields #[.ref t, .int 0 0] }
abbrev zM2 (h : Heap) (t l : Addr) : Heap := (zM1 h t).push { cls := .type "list_iterator", data := .fields #[.ref l, .int 0 0] }
abbrev zM3 (h : Heap) (t l : Addr) : Heap := (zM2 h t l).push { cls := .type "tuple", data := .seq #[.ref h.objs.size, .ref (zM1 h t).objs.size] }
abbrev zM4 (h : Heap) (t l : Addr) : Heap := (zM3 h t l).push { cls := .type "tuple", data := .seq #[.none, .none] }
abbrev zM5 (h : Heap) (t l : Addr) : Heap := (zM4 h t l).push { cls := .type "zip", data := .fields #[.none, .bool false, .bool false, .ref (zM2 h t l).objs.size, .ref (zM3 h t l).objs.size] }
theorem meets_zipM (t l : Addr) (xs ys : Array Value) : Meets (Builtin.«zip.__new__» ⟨[.type "zip", .ref t, .ref l], []⟩) (fun _ R s => s.heap.IsTuple t xs ∧ s.heap.IsList l ys ∧ R (.ok (.ret (.ref (zM4 s.heap t l).objs.size))) { s with heap := zM5 s.heap t l }) :=
  .of_wp fun prog w A R s h => by
    obtain ⟨hp, g, d, tk, os⟩ := s
    obtain ⟨h1, h2, h⟩ := h
    have sub := sub_zip
    have first : Heap.IsTuple (Shared.heap ⟨hp, g, d, tk, os⟩) t xs := h1
    have second : Heap.IsList (Shared.heap ⟨hp.push { cls := .type "tuple_iterator", data := .fields #[.ref t, .int 0 0] }, g, d, tk, os⟩) l ys := Heap.IsList.push h2 _
    wp_walk using wpAny_pyIter_tuple first, wpAny_pyIter_list second
    exact ⟨_, rfl, h⟩
theorem call_zipM {prog : Program} {w : World} {A : Around} {E : Value → Shared → Prop} {s : Shared} {t l : Addr} {xs ys : Array Value} {Q : Value → Shared → Prop} (h1 : s.heap.IsTuple t xs) (h2 : s.heap.IsList l ys)
    (h : ∀ h', IsZip h' (s.heap.objs.size + 4) (s.heap.objs.size + 2) (s.heap.objs.size + 3) .none → IsTupOf2 h' (s.heap.objs.size + 2) (.ref s.heap.objs.size) (.ref (s.heap.objs.size + 1)) → IsTupOf2 h' (s.heap.objs.size + 3) .none .none →
      h'.IsTupleIter s.heap.objs.size t 0 → h'.IsListIter (s.heap.objs.size + 1) l 0 → (∀ c o, s.heap.get? c = some o → h'.get? c = some o) → Q (.ref (s.heap.objs.size + 4)) { s with heap := h' }) :
    wpAny (model prog w) A (call (.type "zip") [.ref t, .ref l]) Q E s := by
  refine callType_new F.called_zip (by decide) (F.typeCall_zip_2 _ _) (F.newCall_zip_2 _ _) (fun obj => F.args_object_init_3 obj _ _) F.entry_zip_new (meets_zipM t l xs ys) ⟨h1, h2, ?_⟩
  have s1 : (zM1 s.heap t).objs.size = s.heap.objs.size + 1 := Heap.size_push ..
  have s2 : (zM2 s.heap t l).objs.size = s.heap.objs.size + 2 := by rw [Heap.size_push, s1]
  have s3 : (zM3 s.heap t l).objs.size = s.heap.objs.size + 3 := by rw [Heap.size_push, s2]
  have s4 : (zM4 s.heap t l).objs.size = s.heap.objs.size + 4 := by rw [Heap.size_push, s3]
  have a5 : (zM5 s.heap t l).get? (zM4 s.heap t l).objs.size = some _ := Heap.get?_push_size _ rfl
  have p3 : ∀ b o, (zM3 s.heap t l).get? b = some o → (zM5 s.heap t l).get? b = some o := fun b o x => Heap.get?_push_of_some _ (Heap.get?_push_of_some _ x)
  have p2 : ∀ b o, (zM2 s.heap t l).get? b = some o → (zM5 s.heap t l).get? b = some o := fun b o x => p3 b o (Heap.get?_push_of_some _ x)
  have p1 : ∀ b o, (zM1 s.heap t).get? b = some o → (zM5 s.heap t l).get? b = some o := fun b o x => p2 b o (Heap.get?_push_of_some _ x)
  have a4 : (zM5 s.heap t l).get? (zM3 s.heap t l).objs.size = some _ := Heap.get?_push_of_some _ (Heap.get?_push_size _ rfl)
  have a3 : (zM5 s.heap t l).get? (zM2 s.heap t l).objs.size = some _ := p3 _ _ (Heap.get?_push_size _ rfl)
  have a2 : (zM5 s.heap t l).get? (zM1 s.heap t).objs.size = some _ := p2 _ _ (Heap.get?_push_size _ rfl)
  have a1 : (zM5 s.heap t l).get? s.heap.objs.size = some _ := p1 _ _ (Heap.get?_push_size _ rfl)
  show _ ∧ _
  rw [s2, s3, s4] at a5
  rw [s3] at a4
  rw [s1, s2] at a3
  rw [s1] at a2
  rw [s4]
  exact ⟨⟨_, a5, rfl⟩, h _ a5 a3 a4 ⟨_, a1, rfl, rfl⟩ ⟨_, a2, rfl, rfl⟩ fun c o x => p1 c o (Heap.get?_push_of_some _ x)⟩
/-- the tuple at a and the list at b as they stand at each turn, the items in new pairs -/
def ItzM (K : PySem.W.Frag) (a b : Addr) : It :=
  ⟨fun i H => ∃ (xs ys : List V) (x y : V), SqT K H a xs ∧ SqL K H b ys ∧ xs[i]? = some x ∧ ys[i]? = some y,
    fun i H v H' => ∃ T x y, v = .ref T ∧ H T = none ∧ H' = upd H T (.tup [x, y]) ∧ (∀ xs, SqT K H a xs → xs[i]? = some x) ∧ ∀ ys, SqL K H b ys → ys[i]? = some y,
    fun i H => ∃ xs ys : List V, SqT K H a xs ∧ SqL K H b ys ∧ i ≤ xs.length ∧ i ≤ ys.length ∧ (i = xs.length ∨ i = ys.length)⟩
structure ApartM (z TI TO i1 i2 a b : Addr) : Prop where
  sep : ZipSep2 z TI TO i1 i2 [i1, a] [i2, b]
  ne1 : a ≠ i1
  ne2 : b ≠ i2
theorem off_by {a b : Addr} (h : @LT.lt Nat _ a b ∨ @LT.lt Nat _ b a) : a ≠ b := fun e => by
  subst e
  rcases h with h | h <;> exact Nat.lt_irrefl _ h
theorem off_two {a b c : Addr} (h : a ≠ b) (k : a ≠ c) : a ∉ [b, c] := fun m => by
  rcases List.mem_cons.mp m with e | e
  · exact h e
  · exact k (List.mem_singleton.mp e)
theorem apartM {n a b : Nat} (la : a < n) (lb : b < n) : ApartM (n + 4) (n + 2) (n + 3) n (n + 1) a b :=
  ⟨⟨off_by (by omega), off_by (by omega), off_by (by omega), off_by (by omega), by simp, off_two (off_by (by omega)) (off_by (by omega)), off_two (off_by (by omega)) (off_by (by omega)), off_by (by omega), by simp, off_two (off_by (by omega)) (off_by (by omega)), off_two (off_by (by omega)) (off_by (by omega)),
    off_two (off_by (by omega)) (off_by (by omega)), off_two (off_by (by omega)) (off_by (by omega))⟩, off_by (by omega), off_by (by omega)⟩
theorem turn_zipM {P : Program} {w : World} {K : PySem.W.Frag} {elts : List Expr} {kk : Nat} {tpos : Pos} {a b z TI TO i1 i2 : Addr} (S : ApartM z TI TO i1 i2 a b) :
    Turn P w K (.Tuple elts kk tpos) (ItzM K a b) [z, TI, TO, i1, i2] z (fun i h => IsZip h z TI TO .none ∧ IsTupOf2 h TI (.ref i1) (.ref i2) ∧ (∃ x y, IsTupOf2 h TO x y) ∧ h.IsTupleIter i1 a i ∧ h.IsListIter i2 b i) where
  mem := by simp
  obj := fun i h ⟨hz, hTI, ⟨x, y, hTO⟩, ⟨o1, e1, _, d1⟩, ⟨o2, e2, _, d2⟩⟩ c hc => by
    simp only [List.mem_cons, List.not_mem_nil, or_false] at hc
    rcases hc with rfl | rfl | rfl | rfl | rfl
    · exact ⟨_, hz, fun v q => nomatch q⟩
    · exact ⟨_, hTI, fun v q => nomatch q⟩
    · exact ⟨_, hTO, fun v q => nomatch q⟩
    · exact ⟨o1, e1, fun v q => by rw [d1] at q; cases q⟩
    · exact ⟨o2, e2, fun v q => by rw [d2] at q; cases q⟩
  keep := fun i h h' ⟨hz, hTI, ⟨x, y, hTO⟩, h1, h2⟩ k => ⟨k z (by simp) _ hz, k TI (by simp) _ hTI, ⟨x, y, k TO (by simp) _ hTO⟩, h1.at fun o q => k i1 (by simp) o q, h2.at fun o q => k i2 (by simp) o q⟩
  item := by
    intro X hP hw hK hc i pins s σ H E I hf st hg
    subst hP hw hK
    obtain ⟨hz, hTI, ⟨x0, y0, hTO⟩, h1, h2⟩ := st
    obtain ⟨xs, ys, x, y, hqx, hqy, hx, hy⟩ := hg
    obtain ⟨its, rv, p, _⟩ := I.tuple hqx
    obtain ⟨its2, rv2, p2, _⟩ := I.list hqy
    obtain ⟨u, hu, ru⟩ := rv.get hx
    obtain ⟨u2, hu2, ru2⟩ := rv2.get hy
    have hzl : z < s.heap.objs.size := Heap.lt_size hz
    have calm : X.A.in1.handled = none := I.ok.hd hc
    have d1 := Draws.tuple (prog := X.prog) (w := X.w) (A := X.A.in1) calm i1 a S.ne1 its.toArray
    have d2 := Draws.list (prog := X.prog) (w := X.w) (A := X.A.in1) calm i2 b S.ne2 its2.toArray
    have l1 : i < its.toArray.size := by
      have := (List.getElem?_eq_some_iff.mp hu).1
      simpa using this
    have l2 : i < its2.toArray.size := by
      have := (List.getElem?_eq_some_iff.mp hu2).1
      simpa using this
    refine wpAny_pyNext_zipD2_item S.sep d1 d2 hz hTI hTO ⟨h1, p⟩ ⟨h2, p2.isList⟩ l1 l2 fun w1 w2 h' tk q1 q2 z' TO' st1 st2 hT hsz hk => ?_
    obtain rfl : w1 = u := by
      have e2 : its.toArray[i]? = some u := by simpa using hu
      rw [e2] at q1
      exact (Option.some.inj q1).symm
    obtain rfl : w2 = u2 := by
      have e2 : its2.toArray[i]? = some u2 := by simpa using hu2
      rw [e2] at q2
      exact (Option.some.inj q2).symm
    refine ⟨_, rfl, wpAny_letOwnedTupleGo_zip (s := { s with heap := h', toks := tk }) z' fun h'' z'' sb => ?_⟩
    have hT2 := (sb.2 _ (Nat.ne_of_gt hzl)).trans hT
    have new : ObjOk X.prog X.w (upd H s.heap.objs.size (.tup [x, y])) h'' s.heap.objs.size (.tup [x, y]) :=
      ⟨by show 2 ≤ sizeLine; decide, [w1, w2], .cons ru (.cons ru2 .nil), ⟨_, hT2, rfl, _, rfl⟩⟩
    have I1 : Inv X pins σ (upd H s.heap.objs.size (.tup [x, y])) { s with heap := h'', toks := tk } :=
      I.turnedNew (t' := tk) (ch := [z, TI, TO, i1, i2]) (fun c o hb q => (sb.2 c (fun e => hb (by simp [e]))).trans (hk c o (fun e => hb (by simp [e])) (fun e => hb (by simp [e])) (fun e => hb (by simp [e])) (fun e => hb (by simp [e])) q)) hf (Nat.le_refl _) new
    have D := S.sep
    refine ⟨.ref s.heap.objs.size, _, I1, rfl, ⟨_, x, y, rfl, I.hok.fresh (Nat.le_refl _), rfl, fun l hl => by rw [I.tuple_inj hl hqx]; exact hx, fun l hl => by rw [I.list_inj hl hqy]; exact hy⟩, ⟨z'', ?_, ⟨w1, w2, ?_⟩, ?_, ?_⟩, fun c hcm => ?_⟩
    · exact (sb.2 _ D.TIz).trans (hk _ _ D.TIz D.TITO D.TIi1 D.TIi2 hTI)
    · exact (sb.2 _ D.TOz).trans TO'
    · exact st1.1.at fun o q => (sb.2 _ (Ne.symm D.zi1)).trans q
    · exact st2.1.at fun o q => (sb.2 _ (Ne.symm D.zi2)).trans q
    · have hlt : c < s.heap.objs.size := by
        simp only [List.mem_cons, List.not_mem_nil, or_false] at hcm
        rcases hcm with rfl | rfl | rfl | rfl | rfl
        · exact hzl
        · exact Heap.lt_size hTI
        · exact Heap.lt_size hTO
        · obtain ⟨_, e1, _⟩ := h1
          exact Heap.lt_size e1
        · obtain ⟨_, e2, _⟩ := h2
          exact Heap.lt_size e2
      rw [upd_ne (Nat.ne_of_lt hlt)]
      exact (hf c hcm).1
  done := by
    intro X hP hw hK hc i pins s σ H E I hf st hg
    subst hP hw hK
    obtain ⟨hz, hTI, ⟨x0, y0, hTO⟩, h1, h2⟩ := st
    obtain ⟨xs, ys, hqx, hqy, n1, n2, hend⟩ := hg
    obtain ⟨its, rv, p, _⟩ := I.tuple hqx
    obtain ⟨its2, rv2, p2, _⟩ := I.list hqy
    have calm : X.A.in1.handled = none := I.ok.hd hc
    have d1 := Draws.tuple (prog := X.prog) (w := X.w) (A := X.A.in1) calm i1 a S.ne1 its.toArray
    have d2 := Draws.list (prog := X.prog) (w := X.w) (A := X.A.in1) calm i2 b S.ne2 its2.toArray
    have e1 : its.toArray.size = xs.length := by rw [List.size_toArray, ← rv.length]
    have e2 : its2.toArray.size = ys.length := by rw [List.size_toArray, ← rv2.length]
    exact wpAny_pyNext_zipD2_end S.sep d1 d2 hz hTI hTO ⟨h1, p⟩ ⟨h2, p2.isList⟩ (by rw [e1]; exact n1) (by rw [e2]; exact n2) (by rw [e1, e2]; exact hend) fun h' tk hk => ⟨rfl, I.turnedL (t' := tk) (ch := [z, TI, TO, i1, i2]) (fun c o hb q =>
      hk c o (fun e => hb (by simp [e])) (fun e => hb (by simp [e])) (fun e => hb (by simp [e])) (fun e => hb (by simp [e])) q) hf⟩
  self := fun A i s Q E st h => wpAny_pyIter_zip st.1 h
def iZipM (K : PySem.W.Frag) (ta : TA) : TI := fun σ H R => ta σ H fun vs H1 => ∃ a b xs ys, vs = [.ref a, .ref b] ∧ SqT K H1 a xs ∧ SqL K H1 b ys ∧ R (ItzM K a b) H1
theorem pi_zipM {X : Cx} {e e2 : Expr} {ta : TA} {p pos tpos : Pos} {elts : List Expr} {kk : Nat} (hg : Gl X "zip") (hm : X.mg "zip" = none) (ha : PA X [e, e2] ta)
    (hs : starEach [e, e2] X.env = (false, eval e X.env) :: starEach [e2] X.env := by rfl) (hpl : (backTo pos (starEach [e2] X.env)).any (·.1) = false := by rfl) :
    PI X (.Tuple elts kk tpos) (.Call (.Name "zip" p) [e, e2] [] pos) (iZipM X.K ta) := by
  refine ⟨fun pins s σ H R I h => Call_ (ld_blt I hg hm PyProof.Rows.boot_zip (PyProof.Rows.callWith_type1 (thn (ha.run pos pins s σ H _ I h) fun us s1 hh => ?_) hs hpl))⟩
  obtain ⟨vs, H1, I1, r1, a, b, xs, ys, rfl, hqx, hqy, q⟩ := hh
  cases r1 with
  | cons r rr =>
    cases rr with
    | cons r' rr =>
      cases rr
      cases r
      cases r'
      obtain ⟨its, rv, p1, _⟩ := I1.tuple hqx
      obtain ⟨its2, rv2, p2, _⟩ := I1.list hqy
      have la : a < s1.heap.objs.size := by
        obtain ⟨_, z, _⟩ := id p1
        exact Heap.lt_size z
      have lb : b < s1.heap.objs.size := p2.lt
      refine call_zipM (show s1.heap.IsTuple a its.toArray from p1) p2.isList fun h' hz hTI hTO h1 h2 hk => wpAny_pyIter_zip hz ?_
      have I2 : Inv X pins σ H1 { s1 with heap := h' } := I1.kept (t' := s1.toks) hk
      refine ⟨s1.heap.objs.size + 4, [s1.heap.objs.size + 4, s1.heap.objs.size + 2, s1.heap.objs.size + 3, s1.heap.objs.size, s1.heap.objs.size + 1], _, _, H1, rfl, I2, turn_zipM (apartM la lb), ⟨hz, hTI, ⟨_, _, hTO⟩, h1, h2⟩, fun c hcm => ?_, q⟩
      have hle : s1.heap.objs.size ≤ c := by
        simp only [List.mem_cons, List.not_mem_nil, or_false] at hcm
        rcases hcm with rfl | rfl | rfl | rfl | rfl
        · exact Nat.le_add_right _ _
        · exact Nat.le_add_right _ _
        · exact Nat.le_add_right _ _
        · exact Nat.le_refl _
        · exact Nat.le_add_right _ _
      exact I1.fpOk hle (I1.hok.fresh hle)
end NQ
namespace NQ
open PySem PySem.Spec PyProof.Rows L2
/-! ### a def that may be called by its name -/
structure Cal (P : Program) (w : World) (K : PySem.W.Frag) (mg : Str → Option Value) (base : Heap) (CX : CXT) (k : Nat) (x : Str) (ps : List Str) (sp : Sp) : Prop where
  ex : ∃ (f : Addr) (fd : FuncData), FnOk P w K mg base CX k f fd ps sp ∧ mg x = some (.ref f) ∧ PySem.W.keepIn K (.ref f) = true ∧ Binds K fd ps []
section
variable {X : Cx} {k j : Nat} {x : Str} {ps : List Str} {sp : Sp} {p pos : Pos} {e : Expr} {es : List Expr} {t : TA}
theorem pe_cl (c : Cal X.prog X.w X.K X.mg X.base CX0 k x ps sp) (hr : Room j X.A) (hk : k ≤ j) (hg : Gl X x) (ha : PA X (e :: es) t)
    (hdb : (x == ("__debug__" : Str)) = false := by decide) (he : starEach (e :: es) X.env = (false, eval e X.env) :: starEach es X.env := by rfl)
    (hpl : (backTo pos (starEach es X.env)).any (·.1) = false := by rfl) : PE X (.Call (.Name x p) (e :: es) [] pos) (tCall sp [] E0 t) := by
  obtain ⟨f, fd, F, hm, kp, b⟩ := c.ex
  exact pe_call F (hr.mono hk) hg hm kp b .nil pass0 ha hdb he hpl
end
/-! ### items that are ints or texts, compared -/
def rLtA : R2 := fun x y H Q => (∃ i j, x = .int i ∧ y = .int j ∧ Q (.bl (decide (i < j))) H) ∨ ∃ i j, x = .str i ∧ y = .str j ∧ Q (.bl (decide (i.cps.toList < j.cps.toList))) H
theorem op_ltA {X : Cx} : OpR X (compareOp .Lt) rLtA := by
  intro pins s σ H x y v u Q I rx ry h
  rcases h with h | h
  · exact op_lt pins s σ H x y v u Q I rx ry h
  · exact op_lt_str pins s σ H x y v u Q I rx ry h
/-! ### a tuple made of a list, its object told; dict(..) of such a tuple of pairs -/
section
variable {X : Cx}
theorem call_tupF : CallR X (.type "tuple") (fun xs H Q => ∃ p ys, xs = [.ref p] ∧ SqL X.K H p ys ∧ ∀ l o, H l = none → o.dict = none → Q (.ref l) (upd H l (.frz o (.tup ys)))) := by
  intro pins s σ H xs us Q I r h
  obtain ⟨p, ys, rfl, hs, q⟩ := h
  obtain ⟨u, rfl, rx⟩ := vals1 r
  obtain rfl : u = Value.ref p := rx
  obtain ⟨its, rv, pl, hz⟩ := I.list hs
  refine call_tuple_list pl.isList (fun h' hk => ?_) (by rw [List.size_toArray, ← rv.length]; exact hz)
  have I1 : Inv X pins σ H { s with heap := h' } := I.kept (t' := s.toks) hk
  have get : (h'.push { cls := .type "tuple", data := .seq its.toArray }).get? h'.objs.size = some { cls := .type "tuple", data := .seq its.toArray } := Heap.get?_push_size _ rfl
  have ob : ObjOk X.prog X.w (upd H h'.objs.size (.frz { cls := .type "tuple", data := .seq its.toArray } (.tup ys))) (h'.push { cls := .type "tuple", data := .seq its.toArray }) h'.objs.size (.frz { cls := .type "tuple", data := .seq its.toArray } (.tup ys)) :=
    ⟨get, hz, its, rv, IsTup.new _ _⟩
  exact ⟨.ref h'.objs.size, _, I1.laid (t' := s.toks) (fun z o e => Heap.get?_push_of_some _ e) (Nat.le_refl _) ob, rfl, q _ _ (I1.hok.fresh (Nat.le_refl _)) rfl⟩
theorem call_dictT (hcalm : X.calm = true) : CallR X (.type "dict") (fun xs H Q => ∃ (a : Addr) (o : Obj) (ps : List Addr) (kvs : List (Key × V)), xs = [.ref a] ∧ H a = some (.frz o (.tup (ps.map V.ref))) ∧ o.dict = none ∧
    Paired (fun p kv => SqT X.K H p [kV kv.1, kv.2]) ps kvs ∧ ∀ p, H p = none → Q (.ref p) (upd H p (.dK (mergeK [] kvs)))) := by
  intro pins s σ H xs us Q I r h
  obtain ⟨a, o, ps, kvs, rfl, ha, hod, hp, q⟩ := h
  obtain ⟨u, rfl, rx⟩ := vals1 r
  obtain rfl : u = Value.ref a := rx
  obtain ⟨ho, hz, its, rv, o', ho', hc, n, hd⟩ := (show ObjOk X.prog X.w H s.heap a (.frz o (.tup (ps.map V.ref))) from I.hok a _ ha)
  have eo : o' = o := Option.some.inj (ho'.symm.trans ho)
  subst eo
  have ei := refs_at rv
  subst ei
  rw [List.length_map] at hz
  obtain ⟨prs, rel, hl, hpr⟩ := pairs_of I hp
  have hprs : ∀ j (hj : j < prs.length), ∃ (b : Addr) (u : Value), ps[j]? = some b ∧ IsTup s.heap b #[u, prs[j].2] ∧ keyIs prs[j].1 u = true := fun j hj => hpr j prs[j] (List.getElem?_eq_getElem hj)
  -- the pairs with their keys' values
  have cho : ∃ ws : List (Value × Value), ws.length = prs.length ∧ ∀ (j : Nat) (k v : Value), ws[j]? = some (k, v) → ∃ (b : Addr) (kk : Key), ps[j]? = some b ∧ IsTup s.heap b #[k, v] ∧ prs[j]? = some (kk, v) ∧ keyIs kk k = true := by
    clear ha hod hc hd ho ho' rv q
    have gen : ∀ m, m ≤ prs.length → ∃ ws : List (Value × Value), ws.length = m ∧ ∀ (j : Nat) (k v : Value), ws[j]? = some (k, v) → ∃ (b : Addr) (kk : Key), ps[j]? = some b ∧ IsTup s.heap b #[k, v] ∧ prs[j]? = some (kk, v) ∧ keyIs kk k = true := by
      intro m
      induction m with
      | zero => exact fun _ => ⟨[], rfl, fun j k v e => by simp at e⟩
      | succ m ih =>
        intro hm
        obtain ⟨ws, e1, e2⟩ := ih (by omega)
        obtain ⟨b, u, f1, f2, f3⟩ := hprs m (by omega)
        refine ⟨ws ++ [(u, prs[m].2)], by simp [e1], fun j k v e => ?_⟩
        by_cases hj : j < m
        · rw [List.getElem?_append_left (by omega)] at e
          exact e2 j k v e
        · have hj2 : j = m := by
            have := (List.getElem?_eq_some_iff.mp e).1
            rw [List.length_append, List.length_singleton] at this
            omega
          subst hj2
          rw [List.getElem?_append_right (by omega), e1, Nat.sub_self] at e
          cases e
          exact ⟨b, prs[j].1, f1, f2, List.getElem?_eq_getElem (by omega), f3⟩
    exact gen prs.length (Nat.le_refl _)
  obtain ⟨ws, w1, w2⟩ := cho
  have wl : ws.length = ps.length := w1.trans hl
  refine PySem.call_dict_pairs (knd := mixKind X.prog X.w) (kvs := prs) (PairArg.tuple a (ps.map Value.ref).toArray (fun j => ps.getD j 0) ws) (I.ok.hd hcalm) ⟨⟨o', n, ho', hc, hod, hd⟩, by simp [wl], fun j k v e => ?_⟩ ⟨w1.symm, fun j k v e => ?_⟩ (by rw [wl]; exact hz) fun h' tk hd' k => ?_
  · obtain ⟨b, kk, f1, f2, f3, f4⟩ := w2 j k v e
    refine ⟨by simp [f1, List.getD_eq_getElem?_getD], ?_⟩
    show PairAt s.heap (ps.getD j 0) k v
    rw [show ps.getD j 0 = b by simp [List.getD_eq_getElem?_getD, f1]]
    exact .inl (by obtain ⟨z, z1, z2, z3⟩ := f2; exact ⟨z, z1, z2, z3⟩)
  · obtain ⟨b, kk, f1, f2, f3, f4⟩ := w2 j k v e
    exact ⟨kk, f3, f4⟩
  · have hm : (s.heap.objs.size == sysModules) = false := beq_eq_false_iff_ne.mpr (Nat.ne_of_gt I.big)
    have hlen : (mergeK [] kvs).length ≤ sizeLine := by
      refine Nat.le_trans (length_mergeK kvs []) ?_
      rw [List.length_nil, Nat.zero_add, rel.length, hl]
      exact hz
    have ob : ObjOk X.prog X.w (upd H s.heap.objs.size (.dK (mergeK [] kvs))) h' s.heap.objs.size (.dK (mergeK [] kvs)) := ⟨hlen, hm, merged [] prs, KV.merge rel .nil, hd'⟩
    exact ⟨.ref s.heap.objs.size, _, I.laid (t' := tk) (fun b o e => k b o (by simp) e) (Nat.le_refl _) ob, rfl, q _ (I.hok.fresh (Nat.le_refl _))⟩
end
end NQ
namespace NQ
open PySem PySem.Spec PyProof.Rows L2 Evl
/-! ### promises of defs that only make new things -/
/-- the def returns a value with Post, where Pre holds; all that is tracked stays -/
def spR (Pre : List V → Hp → Prop) (Post : List V → V → Hp → Prop) : Sp := fun vs H Q _ => Pre vs H ∧ ∀ v H', Ex H H' → Post vs v H' → Q v H'
/-- a tuple of xs, new or not -/
def EvW (te : TE) (σ : L2.St) (H : Hp) (xs : List V) : Prop := ∀ H1, Ex H H1 → ∀ Q : VK, (∀ p H2, Ex H1 H2 → H2 p = some (.tup xs) → Q (.ref p) H2) → te σ H1 Q
/-- a tuple of xs that may be read -/
def EvQ (K : PySem.W.Frag) (te : TE) (σ : L2.St) (H : Hp) (xs : List V) : Prop := ∀ H1, Ex H H1 → ∀ Q : VK, (∀ p H2, Ex H1 H2 → SqT K H2 p xs → Q (.ref p) H2) → te σ H1 Q
/-- a new dict -/
def EvD (te : TE) (σ : L2.St) (H : Hp) (kvs : List (Key × V)) : Prop := ∀ H1, Ex H H1 → ∀ Q : VK, (∀ p H2, H1 p = none → Ex H1 H2 → H2 p = some (.dK kvs) → Q (.ref p) H2) → te σ H1 Q
/-- a value with P -/
def Gv (te : TE) (σ : L2.St) (H : Hp) (P : V → Hp → Prop) : Prop := ∀ H1, Ex H H1 → ∀ Q : VK, (∀ v H2, Ex H1 H2 → P v H2 → Q v H2) → te σ H1 Q
section
variable {K : PySem.W.Frag} {σ : L2.St} {H H' : Hp} {ta tb te tx : TE} {t u : TT} {x y z v : V} {r : R2} {tr : TA}
theorem EvW.mono {xs : List V} (e : Ex H H') (h : EvW te σ H xs) : EvW te σ H' xs := fun H1 a Q q => h H1 (e.trans a) Q q
theorem EvU.mono {xs : List V} (e : Ex H H') (h : EvU te σ H xs) : EvU te σ H' xs := fun H1 a Q q => h H1 (e.trans a) Q q
theorem Gv.mono {P : V → Hp → Prop} (e : Ex H H') (h : Gv te σ H P) : Gv te σ H' P := fun H1 a Q q => h H1 (e.trans a) Q q
theorem ew_of {xs : List V} (h : EvU te σ H xs) : EvW te σ H xs := fun H1 e Q q => h H1 e Q fun p H2 _ e2 hp => q p H2 e2 hp
theorem ew_ev {xs : List V} {p : Addr} (h : Ev te σ H (.ref p)) (hp : H p = some (.tup xs)) : EvW te σ H xs := fun H1 e Q q => h H1 e Q fun H2 e2 => q p H2 e2 ((e.trans e2) _ _ hp)
theorem eq_w {xs : List V} (h : EvW te σ H xs) : EvQ K te σ H xs := fun H1 e Q q => h H1 e Q fun p H2 e2 hp => q p H2 e2 (st_of hp)
theorem eq_ev {xs : List V} {p : Addr} (h : Ev te σ H (.ref p)) (hp : SqT K H p xs) : EvQ K te σ H xs := fun H1 e Q q => h H1 e Q fun H2 e2 => q p H2 e2 (ex_t (e.trans e2) hp)
theorem gv_ev (h : Ev te σ H v) : Gv te σ H (fun w _ => w = v) := fun H1 e Q q => h H1 e Q fun H2 e2 => q v H2 e2 rfl
theorem gv_L {xs : List V} (h : EvL te σ H xs) : Gv te σ H (fun w H2 => ∃ p, w = .ref p ∧ H2 p = some (.lst xs)) := fun H1 e Q q => h H1 e Q fun p H2 _ e2 hp => q _ H2 e2 ⟨p, rfl, hp⟩
theorem gv_W {xs : List V} (h : EvW te σ H xs) : Gv te σ H (fun w H2 => ∃ p, w = .ref p ∧ H2 p = some (.tup xs)) := fun H1 e Q q => h H1 e Q fun p H2 e2 hp => q _ H2 e2 ⟨p, rfl, hp⟩
theorem ev_gv (h : Gv te σ H (fun w _ => w = v)) : Ev te σ H v := fun H1 e Q q => h H1 e Q fun w H2 e2 hw => by
  subst hw
  exact q H2 e2
theorem ew_gv {xs : List V} (h : Gv te σ H (fun w H2 => ∃ p, w = .ref p ∧ H2 p = some (.tup xs))) : EvW te σ H xs := fun H1 e Q q => h H1 e Q fun w H2 e2 hw => by
  obtain ⟨p, rfl, hp⟩ := hw
  exact q p H2 e2 hp
theorem Gv.imp {P P' : V → Hp → Prop} (h : Gv te σ H P) (i : ∀ v H1, Ex H H1 → P v H1 → P' v H1) : Gv te σ H P' := fun H1 e Q q => h H1 e Q fun v H2 e2 hv => q v H2 e2 (i v H2 (e.trans e2) hv)
/-- f(..), told by spR -/
theorem gv_call {Pre : List V → Hp → Prop} {Post : List V → V → Hp → Prop} {vs : List V} {E : XK} (h : EvA tr σ H vs) (hp : ∀ H1, Ex H H1 → Pre vs H1) : Gv (tCall (spR Pre Post) [] E tr) σ H (Post vs) := fun H1 e Q q => by
  refine h H1 e _ fun H2 e2 => ?_
  rw [List.append_nil]
  exact ⟨hp H2 (e.trans e2), fun v H' e3 hv => q v H' (e2.trans e3) hv⟩
/-- one argument that is made on the way -/
theorem gv_call1 {Pre : List V → Hp → Prop} {Post : List V → V → Hp → Prop} {P P' : V → Hp → Prop} {E : XK} (h : Gv te σ H P) (hp : ∀ v H1, Ex H H1 → P v H1 → Pre [v] H1 ∧ ∀ w H2, Ex H1 H2 → Post [v] w H2 → P' w H2) :
    Gv (tCall (spR Pre Post) [] E (tCons te tNil)) σ H P' := fun H1 e Q q => by
  refine h H1 e _ fun v H2 e2 hv => ?_
  obtain ⟨a, b⟩ := hp v H2 (e.trans e2) hv
  exact ⟨a, fun w H3 e3 hw => q w H3 (e2.trans e3) (b w H3 e3 hw)⟩
/-! ### the rules with the written part named -/
theorem ixT {X : Cx} {K : PySem.W.Frag} (e : X.K = K) : IxR X (rIxT K) := by
  subst e
  exact ix_tup
theorem ixL {X : Cx} {K : PySem.W.Frag} (e : X.K = K) : IxR X (rIxL K) := by
  subst e
  exact ix_list
theorem crIsi {X : Cx} {K : PySem.W.Frag} (e : X.K = K) : CallR X (.builtin "isinstance") (rIsi K) := by
  subst e
  exact call_isi
theorem crLen {X : Cx} {K : PySem.W.Frag} (e : X.K = K) : CallR X (.builtin "len") (rLenS K) := by
  subst e
  exact call_len_seq
theorem crAll {X : Cx} {K : PySem.W.Frag} (e : X.K = K) (hc : X.calm = true) : CallR X (.builtin "all") (rAll K) := by
  subst e
  exact cr_all hc
def rTupS (K : PySem.W.Frag) : List V → Hp → VK → Prop := fun xs H Q => ∃ p ys, xs = [.ref p] ∧ ((SqL K H p ys ∧ ∀ l, H l = none → Q (.ref l) (upd H l (.tup ys))) ∨ (SqT K H p ys ∧ Q (.ref p) H))
theorem crTup {X : Cx} {K : PySem.W.Frag} (e : X.K = K) : CallR X (.type "tuple") (rTupS K) := by
  subst e
  exact call_tuple_of
def rTupF (K : PySem.W.Frag) : List V → Hp → VK → Prop := fun xs H Q => ∃ p ys, xs = [.ref p] ∧ SqL K H p ys ∧ ∀ l o, H l = none → o.dict = none → Q (.ref l) (upd H l (.frz o (.tup ys)))
theorem crTupF {X : Cx} {K : PySem.W.Frag} (e : X.K = K) : CallR X (.type "tuple") (rTupF K) := by
  subst e
  exact call_tupF
def rDictT (K : PySem.W.Frag) : List V → Hp → VK → Prop := fun xs H Q => ∃ (a : Addr) (o : Obj) (ps : List Addr) (kvs : List (Key × V)), xs = [.ref a] ∧ H a = some (.frz o (.tup (ps.map V.ref))) ∧ o.dict = none ∧
    Paired (fun p kv => SqT K H p [kV kv.1, kv.2]) ps kvs ∧ ∀ p, H p = none → Q (.ref p) (upd H p (.dK (mergeK [] kvs)))
theorem crDictT {X : Cx} {K : PySem.W.Frag} (e : X.K = K) (hc : X.calm = true) : CallR X (.type "dict") (rDictT K) := by
  subst e
  exact call_dictT hc
def rDictL (K : PySem.W.Frag) : List V → Hp → VK → Prop := fun xs H Q => ∃ (a : Addr) (ps : List Addr) (kvs : List (Key × V)), xs = [.ref a] ∧ SqL K H a (ps.map V.ref) ∧
    Paired (fun p kv => SqT K H p [kV kv.1, kv.2]) ps kvs ∧ ∀ p, H p = none → Q (.ref p) (upd H p (.dK (mergeK [] kvs)))
theorem crDictL {X : Cx} {K : PySem.W.Frag} (e : X.K = K) (hc : X.calm = true) : CallR X (.type "dict") (rDictL K) := by
  subst e
  exact call_dictP hc
theorem opInS {X : Cx} {K : PySem.W.Frag} (e : X.K = K) : OpR X (compareOp .In) (rIn K false) := by
  subst e
  exact op_in_seq
theorem opNotInS {X : Cx} {K : PySem.W.Frag} (e : X.K = K) : OpR X (compareOp .NotIn) (rIn K true) := by
  subst e
  exact op_notIn_seq
theorem piTup {X : Cx} {K : PySem.W.Frag} {tg l : Expr} {tl : TE} (e : X.K = K) (h : PE X l tl) : PI X tg l (iTup K tl) := by
  subst e
  exact pi_tup h
theorem piLst {X : Cx} {K : PySem.W.Frag} {tg l : Expr} {tl : TE} (e : X.K = K) (h : PE X l tl) : PI X tg l (iList K tl) := by
  subst e
  exact pi_list h
theorem slT {X : Cx} {K : PySem.W.Frag} (e : X.K = K) : SlR X (rSlT K) := by
  subst e
  exact sl_tup
theorem slL {X : Cx} {K : PySem.W.Frag} (e : X.K = K) : SlR X (rSlL K) := by
  subst e
  exact sl_list
/-! ### tests and built-ins -/
theorem ev_callB {Pre : List V → Hp → Prop} {vs : List V} {E : XK} (h : EvA tr σ H vs) (hp : ∀ H1, Ex H H1 → Pre vs H1) : Ev (tCall (spR Pre fun _ v _ => v = .bl true) [] E tr) σ H (.bl true) := ev_gv (gv_call h hp)
theorem ev_callN {Pre : List V → Hp → Prop} {vs : List V} {E : XK} (h : EvA tr σ H vs) (hp : ∀ H1, Ex H H1 → Pre vs H1) : Ev (tCall (spR Pre fun _ v _ => v = .non) [] E tr) σ H .non := ev_gv (gv_call h hp)
theorem ev_isi {w : V} {tt uu : Value} {b : Bool} (ha : Ev ta σ H x) (hb : Ev tb σ H w) (k : ClsV w uu) (ty : ∀ H1, Ex H H1 → TyX K H1 x tt) (e : PySem.W.kitOne K tt uu = some b) :
    Ev (tCB (rIsi K) (tCons ta (tCons tb tNil))) σ H (.bl b) := fun H1 a Q q => by
  refine ha H1 a _ fun H2 e2 => ?_
  refine hb H2 (a.trans e2) _ fun H3 e3 => ?_
  exact ⟨x, w, tt, uu, b, rfl, k, ty H3 ((a.trans e2).trans e3), e, q H3 (e2.trans e3)⟩
theorem ev_lenS {w : Str} (ha : Ev ta σ H (.str w)) (hl : w.length ≤ 100000) : Ev (tCB (fun xs H Q => ∃ z : Str, xs = [.str z] ∧ z.length ≤ sizeLine ∧ Q (.int z.length) H) (tCons ta tNil)) σ H (.int (w.length : Int)) := fun H1 e Q q => by
  refine ha H1 e _ fun H2 e2 => ?_
  exact ⟨w, rfl, sz_of hl, q H2 e2⟩
theorem ev_lenT {p : Addr} {xs : List V} (ha : Ev ta σ H (.ref p)) (h : SqT K H p xs) : Ev (tCB (rLenS K) (tCons ta tNil)) σ H (.int (xs.length : Int)) := fun H1 e Q q => by
  refine ha H1 e _ fun H2 e2 => ?_
  exact ⟨p, xs, rfl, Or.inr (ex_t (e.trans e2) h), q H2 e2⟩
theorem ev_all {n : Nat} {bs : List Bool} {xs : List V} (ha : EvL ta σ H xs) (hx : xs = bs.map V.bl) (hb : bs.all id = true) : Ev (tCB (rAll K) (tCons ta tNil)) σ H (.bl true) := fun H1 e Q q => by
  refine ha H1 e _ fun p H2 _ e2 hp => ?_
  refine ⟨p, bs, rfl, sq_of (by rw [← hx]; exact hp), ?_⟩
  rw [hb]
  exact q H2 e2
theorem eu_tupOf {xs : List V} (ha : EvL ta σ H xs) : EvU (tCB (rTupS K) (tCons ta tNil)) σ H xs := fun H1 e Q q => by
  refine ha H1 e _ fun p H2 hp0 e2 hp => ?_
  exact ⟨p, xs, rfl, Or.inl ⟨sq_of hp, fun l hl => q l _ (fresh_back e2 hl) (e2.trans (Ex.new hl)) upd_same⟩⟩
theorem ev_add {i j : Int} (ha : Ev ta σ H (.int i)) (hb : Ev tb σ H (.int j)) : Ev (tOp (rI0 fun i j => .int (i + j)) ta tb) σ H (.int (i + j)) := ev_op ha hb rv_I0
theorem ev_sub {i j : Int} (ha : Ev ta σ H (.int i)) (hb : Ev tb σ H (.int j)) : Ev (tOp (rI0 fun i j => .int (i - j)) ta tb) σ H (.int (i - j)) := ev_op ha hb rv_I0
theorem ev_ltV {i j : Int} (ha : Ev ta σ H (.int i)) (hb : Ev tb σ H (.int j)) : Ev (tOp (rI0 fun i j => .bl (decide (i < j))) ta tb) σ H (.bl (decide (i < j))) := ev_op ha hb rv_I0
theorem ev_leV {i j : Int} (ha : Ev ta σ H (.int i)) (hb : Ev tb σ H (.int j)) : Ev (tOp (rI0 fun i j => .bl (decide (i ≤ j))) ta tb) σ H (.bl (decide (i ≤ j))) := ev_op ha hb rv_I0
theorem ev_gtV {i j : Int} (ha : Ev ta σ H (.int i)) (hb : Ev tb σ H (.int j)) : Ev (tOp (rI0 fun i j => .bl (decide (j < i))) ta tb) σ H (.bl (decide (j < i))) := ev_op ha hb rv_I0
theorem ev_geV {i j : Int} (ha : Ev ta σ H (.int i)) (hb : Ev tb σ H (.int j)) : Ev (tOp (rI0 fun i j => .bl (decide (j ≤ i))) ta tb) σ H (.bl (decide (j ≤ i))) := ev_op ha hb rv_I0
theorem ev_ltI {i j : Int} : RV rLtA (.int i) (.int j) H (.bl (decide (i < j))) := fun H1 _ _ q => Or.inl ⟨i, j, rfl, rfl, q H1 (Ex.refl H1)⟩
theorem ev_ltS {i j : Str} : RV rLtA (.str i) (.str j) H (.bl (decide (i.cps.toList < j.cps.toList))) := fun H1 _ _ q => Or.inr ⟨i, j, rfl, rfl, q H1 (Ex.refl H1)⟩
def rInC : R2 := fun x y H Q => ∃ (c : Nat) (z : Str), x = .str ⟨#[c]⟩ ∧ y = .str z ∧ Q (.bl (decide (c ∈ z.cps.toList))) H
theorem rv_inC {c : Nat} {w : Str} : RV rInC (.str ⟨#[c]⟩) (.str w) H (.bl (decide (c ∈ w.cps.toList))) := fun H1 _ _ q => ⟨c, w, rfl, rfl, q H1 (Ex.refl H1)⟩
/-! ### comprehensions over tuples, texts, ranges -/
theorem el_lcT {xs : List V} {tl : TE} {j : Nat} {vs : List Nat} (f : Nat → Bool) (v : Nat → V) (h : EvQ K tl σ H xs) (hz : xs.length ≤ 40000) (hw : ∀ x, wipe ((wipe σ vs).set j (some x)) vs = wipe σ vs)
    (ht : ∀ (i : Nat) (x : V) H1, Ex H H1 → xs[i]? = some x → EvT t ((wipe σ vs).set j (some x)) H1 (f i)) (he : ∀ (i : Nat) (x : V) H1, Ex H H1 → xs[i]? = some x → f i = true → Ev te ((wipe σ vs).set j (some x)) H1 (v i)) :
    EvL (tLc (iTup K tl) (gName j) t te vs) σ H (given xs.length f v) := fun H0 e Q q => by
  refine h H0 e _ fun a H1 e1 hx' => ?_
  refine ⟨a, rfl, ⟨xs, hx'⟩, fun Dl hD => ?_⟩
  refine lc_tup (xs := xs) (Cw H1 f v Dl) ⟨hD, Ex.new hD, upd_same⟩ (fun i H' _ p => ex_t p.2.1 hx') (fun i x H' hi p => ?_) fun H' p => q Dl H' (fresh_back e1 p.1) (e1.trans p.2.1) p.2.2
  exact ⟨hw x, cw_turn p (by have := (List.getElem?_eq_some_iff.mp hi).1; omega) (ht i x H1 (e.trans e1) hi) fun hf => he i x H1 (e.trans e1) hi hf⟩
theorem el_lcS {z : Str} {tl : TE} {j : Nat} {vs : List Nat} (f : Nat → Bool) (v : Nat → V) (h : Ev tl σ H (.str z)) (hz : z.cps.size ≤ 40000) (hw : ∀ x, wipe ((wipe σ vs).set j (some x)) vs = wipe σ vs)
    (ht : ∀ (i : Nat) (c : Nat) H1, Ex H H1 → z.cps[i]? = some c → EvT t ((wipe σ vs).set j (some (.str ⟨#[c]⟩))) H1 (f i)) (he : ∀ (i : Nat) (c : Nat) H1, Ex H H1 → z.cps[i]? = some c → f i = true → Ev te ((wipe σ vs).set j (some (.str ⟨#[c]⟩))) H1 (v i)) :
    EvL (tLc (iStr tl) (gName j) t te vs) σ H (given z.cps.size f v) := fun H0 e Q q => by
  refine h H0 e _ fun H1 e1 => ?_
  refine ⟨z, rfl, fun Dl hD => ?_⟩
  refine ⟨fun i m H' => m = z.cps.size - i ∧ i ≤ z.cps.size ∧ Cw H1 f v Dl i H', ⟨z.cps.size, by simp, Nat.zero_le _, hD, Ex.new hD, upd_same⟩, ?_⟩
  rintro i m H' ⟨rfl, hi, p⟩
  by_cases hlt : i < z.cps.size
  · refine Or.inr ⟨hlt, Cw H1 f v Dl (i + 1), fun H2 p' => ⟨z.cps.size - (i + 1), by omega, rfl, hlt, p'⟩, fun x H2 y => ?_⟩
    obtain ⟨rfl, c, hc, rfl⟩ := y
    exact ⟨hw _, cw_turn p (by omega) (ht i c H1 (e.trans e1) hc) fun hf => he i c H1 (e.trans e1) hc hf⟩
  · have ei : i = z.cps.size := by omega
    subst ei
    exact Or.inl ⟨Nat.le_refl _, q Dl H' (fresh_back e1 p.1) (e1.trans p.2.1) p.2.2⟩
theorem et_yes : EvT tYes σ H true := fun H1 _ _ q => q H1 (Ex.refl H1)
/-! ### given, as lists -/
theorem given_all (n : Nat) (v : Nat → V) : given n (fun _ => true) v = (List.range n).map v := by
  unfold given
  congr 1
  exact List.filter_eq_self.mpr fun _ _ => rfl
theorem map_range_getD {α β : Type} (d : α) (g : α → β) : ∀ xs : List α, (List.range xs.length).map (fun i => g (xs.getD i d)) = xs.map g
  | [] => rfl
  | x :: r => by
    rw [List.length_cons, List.range_succ_eq_map, List.map_cons, List.map_map]
    show g x :: _ = g x :: _
    congr 1
    have ih := map_range_getD d g r
    rw [← ih]
    rfl
theorem given_map {α : Type} (d : α) (g : α → V) (xs : List α) : given xs.length (fun _ => true) (fun i => g (xs.getD i d)) = xs.map g := by
  rw [given_all, map_range_getD]
theorem given_filter {α : Type} (d : α) (p : α → Bool) (g : α → V) : ∀ xs : List α, given xs.length (fun i => p (xs.getD i d)) (fun i => g (xs.getD i d)) = (xs.filter p).map g := by
  intro xs
  unfold given
  have h : ((List.range xs.length).filter fun i => p (xs.getD i d)).map (fun i => xs.getD i d) = xs.filter p := by
    rw [show (fun i => p (xs.getD i d)) = p ∘ (fun i => xs.getD i d) from rfl, ← List.filter_map, map_range_getD d (fun x => x) xs, List.map_id']
  rw [← h, List.map_map]
  rfl
theorem given_true {n : Nat} {bs : List Bool} (h : bs = List.replicate n true) : given n (fun _ => true) (fun _ => V.bl true) = bs.map V.bl := by
  rw [given_all, h, List.map_replicate]
  exact List.map_const' .. |>.trans (by rw [List.length_range])
/-- all of a comprehension whose elements are all true -/
theorem ev_allT {n : Nat} (ha : EvL ta σ H (given n (fun _ => true) (fun _ => V.bl true))) : Ev (tCB (rAll K) (tCons ta tNil)) σ H (.bl true) :=
  ev_all (n := n) (bs := List.replicate n true) ha (given_true rfl) (by simp)
/-! ### statements with Gv -/
variable {D : Ends} {tz : TS}
theorem q_asgG {i : Nat} {P : V → Hp → Prop} (h : Gv te σ H P) (k : ∀ v H1, Ex H H1 → P v H1 → tz D (σ.set i (some v)) H1) : tSeq (tAsg te (gName i)) tz D σ H := h H (Ex.refl H) _ fun v H1 e hv => k v H1 e hv
theorem q_asgD {i : Nat} {kvs : List (Key × V)} (h : EvD te σ H kvs) (k : ∀ p H1, H p = none → Ex H H1 → H1 p = some (.dK kvs) → tz D (σ.set i (some (.ref p))) H1) : tSeq (tAsg te (gName i)) tz D σ H := h H (Ex.refl H) _ fun p H1 hn e hp => k p H1 hn e hp
theorem s_retG {P : V → Hp → Prop} (h : Gv te σ H P) (k : ∀ v H1, Ex H H1 → P v H1 → D.rt v H1) : tRet te D σ H := h H (Ex.refl H) _ fun v H1 e hv => k v H1 e hv
theorem q_dropG {P : V → Hp → Prop} (h : Gv te σ H P) (k : ∀ v H1, Ex H H1 → P v H1 → tz D σ H1) : tSeq (tDrop te) tz D σ H := h H (Ex.refl H) _ fun v H1 e hv => k v H1 e hv
/-- a for over a tuple that stands: Pv by the turn; the body leaves all that is tracked -/
theorem q_forQ {xs : List V} {g : TG} {tb : TS} (h : EvQ K te σ H xs) (Pv : Nat → L2.St → Hp → Prop) (h0 : ∀ H1, Ex H H1 → Pv 0 σ H1)
    (hs : ∀ (i : Nat) (x : V) (σ' : L2.St) (H1 H' : Hp) (N : L2.St → Hp → Prop), Ex H H1 → xs[i]? = some x → Ex H1 H' → Pv i σ' H' → (∀ σ3 H3, Ex H' H3 → Pv (i + 1) σ3 H3 → N σ3 H3) → g x σ' H' fun σ2 H2 => tb { D with nx := N, ct := N, bk := tz D } σ2 H2)
    (hd : ∀ σ' H', Ex H H' → Pv xs.length σ' H' → tz D σ' H') : tSeq (tFor (iTup K te) g tb) tz D σ H := by
  refine h H (Ex.refl H) _ fun a H1 e1 hx => ?_
  refine ⟨a, rfl, ⟨xs, hx⟩, ?_⟩
  refine for_tup (xs := xs) (D := { D with nx := tz D }) (fun i σ' H' => Ex H1 H' ∧ Pv i σ' H') ⟨Ex.refl H1, h0 H1 e1⟩ (fun i σ' H' _ p => ex_t p.1 hx) (fun i x σ' H' hi p => ?_) fun σ' H' p => hd σ' H' (e1.trans p.1) p.2
  exact hs i x σ' H1 H' (fun σ3 H3 => Ex H1 H3 ∧ Pv (i + 1) σ3 H3) e1 hi p.1 p.2 fun σ3 H3 e3 p3 => ⟨p.1.trans e3, p3⟩
/-! ### more statements -/
theorem q_par {i j : Nat} {v w : V} {ta : TA} (h : EvA ta σ H [v, w]) (k : ∀ H1, Ex H H1 → tz D ((σ.set i (some v)).set j (some w)) H1) : tSeq (tPar i j ta) tz D σ H := h H (Ex.refl H) _ fun H1 e => ⟨v, w, rfl, k H1 e⟩
theorem s_par {i j : Nat} {v w : V} {ta : TA} (h : EvA ta σ H [v, w]) (k : ∀ H1, Ex H H1 → D.nx ((σ.set i (some v)).set j (some w)) H1) : tPar i j ta D σ H := h H (Ex.refl H) _ fun H1 e => ⟨v, w, rfl, k H1 e⟩
theorem q_dput {td ty tv : TE} {a : Addr} {k : Key} {v : V} (hv : Ev tv σ H v) (hd : Ev td σ H (.ref a)) (hk : Ev ty σ H (kV k)) (kk : ∀ H1, Ex H H1 → ∃ kvs, H1 a = some (.dK kvs) ∧ kvs.length < sizeLine ∧ tz D σ (upd H1 a (.dK (putK kvs k v)))) :
    tSeq (sDPut td ty tv) tz D σ H := by
  refine hv H (Ex.refl H) _ fun H1 e1 => ?_
  refine hd H1 e1 _ fun H2 e2 => ?_
  refine hk H2 (e1.trans e2) _ fun H3 e3 => ?_
  obtain ⟨kvs, h1, h2, h3⟩ := kk H3 ((e1.trans e2).trans e3)
  exact ⟨a, _, rfl, DPut.k h1 h2, h3⟩
/-- a list that may be read -/
def EvQL (K : PySem.W.Frag) (te : TE) (σ : L2.St) (H : Hp) (xs : List V) : Prop := ∀ H1, Ex H H1 → ∀ Q : VK, (∀ p H2, Ex H1 H2 → SqL K H2 p xs → Q (.ref p) H2) → te σ H1 Q
theorem eql_of {xs : List V} (h : EvL te σ H xs) : EvQL K te σ H xs := fun H1 e Q q => h H1 e Q fun p H2 _ e2 hp => q p H2 e2 (sq_of hp)
theorem eql_ev {xs : List V} {p : Addr} (h : Ev te σ H (.ref p)) (hp : SqL K H p xs) : EvQL K te σ H xs := fun H1 e Q q => h H1 e Q fun H2 e2 => q p H2 e2 (ex_l (e.trans e2) hp)
theorem q_forQL {xs : List V} {g : TG} {tb : TS} (h : EvQL K te σ H xs) (Pv : Nat → L2.St → Hp → Prop) (h0 : ∀ H1, Ex H H1 → Pv 0 σ H1)
    (hs : ∀ (i : Nat) (x : V) (σ' : L2.St) (H1 H' : Hp) (N : L2.St → Hp → Prop), Ex H H1 → xs[i]? = some x → Ex H1 H' → Pv i σ' H' → (∀ σ3 H3, Ex H' H3 → Pv (i + 1) σ3 H3 → N σ3 H3) → g x σ' H' fun σ2 H2 => tb { D with nx := N, ct := N, bk := tz D } σ2 H2)
    (hd : ∀ σ' H', Ex H H' → Pv xs.length σ' H' → tz D σ' H') : tSeq (tFor (iList K te) g tb) tz D σ H := by
  refine h H (Ex.refl H) _ fun a H1 e1 hx => ?_
  refine ⟨a, rfl, ⟨xs, hx⟩, ?_⟩
  refine for_list (xs := xs) (D := { D with nx := tz D }) (fun i σ' H' => Ex H1 H' ∧ Pv i σ' H') ⟨Ex.refl H1, h0 H1 e1⟩ (fun i σ' H' _ p => ex_l p.1 hx) (fun i x σ' H' hi p => ?_) fun σ' H' p => hd σ' H' (e1.trans p.1) p.2
  exact hs i x σ' H1 H' (fun σ3 H3 => Ex H1 H3 ∧ Pv (i + 1) σ3 H3) e1 hi p.1 p.2 fun σ3 H3 e3 p3 => ⟨p.1.trans e3, p3⟩
end
end NQ
/-! rules: d.update(e); a tuple times an int; sorted of tuples with a text ahead; == of dicts of ints -/
namespace NQ
open PySem PySem.Spec PyProof.Rows L2
section
variable {X : Cx}
/-! ### d.update(e) -/
def rDUpd : V → List V → Hp → VK → Prop := fun x xs H Q => ∃ d e ks ls, x = .ref d ∧ xs = [.ref e] ∧ d ≠ e ∧ H d = some (.dK ks) ∧ H e = some (.dK ls) ∧ ks.length + ls.length ≤ sizeLine ∧ Q .non (upd H d (.dK (mergeK ks ls)))
theorem mtd_update : MtR X "dict.update" rDUpd := by
  intro pins s σ H x vs v us Q I rx rv h
  obtain ⟨d, e, ks, ls, rfl, rfl, hne, hd, he, hz, q⟩ := h
  obtain rfl : v = Value.ref d := rx
  obtain ⟨u, rfl, ru⟩ := vals1 rv
  obtain rfl : u = Value.ref e := ru
  obtain ⟨zd, md, vd, rd, dd⟩ := dk_of I.hok hd
  obtain ⟨ze, me, ve, re, de⟩ := dk_of I.hok he
  refine call_meetsIn PySem.F.slot_dict_update dd.typeIs PySem.F.entry_dict_update (PySem.F.args_dict_update_2 _ _) (meets_dict_update (mixKind X.prog X.w) d e hne me) ⟨vd, ve, dd, de, by rw [← rd.length, ← re.length]; exact hz, fun h' hd' ho' hs => ?_⟩
  have hex : ∃ q, h'.get? d = some q := let ⟨q, _, _, hq, _⟩ := hd'; ⟨q, hq⟩
  have hl := length_mergeK ls ks
  refine ⟨.non, _, d_write (t' := s.toks) I (by rw [hd]; exact True.intro) hs hex (dk_new (by omega) md (KV.merge re rd) hd'), rfl, q⟩
/-! ### a tuple times an int -/
theorem tuple_mul1 (l : Addr) (items : Array Value) (n : Nat) (sl : Array (Option Value)) (dd : Option Addr) (u : Tok) :
    Meets (Builtin.«tuple.__mul__» ⟨[.ref l, .int 1 u], []⟩) (fun _ R s => s.heap.get? l = some { cls := .type "tuple", dict := dd, data := .seq items n, slots := sl } ∧ R (.ok (.ret (Value.ref l))) s) :=
  .of_wp fun prog w A R s h => by
    obtain ⟨hp, g, d, tk, os⟩ := s
    obtain ⟨hl, h⟩ := h
    have f1 := AutoSeq1.idx_int
    have c1 : (items.isEmpty || (1 : Int) == 1) = true := by simp
    wp_walk using PySem.AutoSeq1.wpAny_loadPart' hl
    repeat (first
      | (refine wpAny_ite_true (decide_eq_true (by rw [c1])) ?_; wp_walk using PySem.AutoSeq1.wpAny_loadPart' hl)
      | (refine wpAny_ite_false (decide_eq_false (by decide)) ?_; wp_walk using PySem.AutoSeq1.wpAny_loadPart' hl))
    exact ⟨_, rfl, h⟩
def rRepU (K : PySem.W.Frag) : R2 := fun x y H Q => rRepT K x y H Q ∨ ∃ l xs, x = .ref l ∧ y = .int 1 ∧ SqT K H l xs ∧ Q (.ref l) H
theorem op_repU : OpR X (binaryOp .Mult) (rRepU X.K) := by
  intro pins s σ H x y v u Q I rx ry h
  rcases h with h | ⟨l, xs, rfl, rfl, hT, q⟩
  · exact op_repT pins s σ H x y v u Q I rx ry h
  cases rx
  obtain ⟨t, rfl⟩ := ry
  obtain ⟨its, r, ⟨⟨cls, dd, data, sl⟩, ho, hc, n, hd⟩, hs⟩ := I.tuple hT
  simp only at hc hd
  subst hc hd
  exact wpAny_binaryOp_repeat_ref (T := "tuple") (U := "int") (by decide) ⟨_, ho, rfl⟩ (fun s' => typeIs_int s' 1 t) noFill_tuple_mul F.fills_int_mul F.slot_int_rmul repeat_tuple F.slot_int_index.lookup
    (call_meets F.slot_int_rmul (typeIs_int s 1 t) F.entry_int_rmul (F.args_int_rmul_2 _ _) (int_rmul_tuple 1 t l its.toArray n dd sl)
      ⟨ho, rfl, ⟨_, ho, rfl⟩, call_meets F.slot_tuple_mul ⟨_, ho, rfl⟩ F.entry_tuple_mul (F.args_tuple_mul_2 _ _) (tuple_mul1 l its.toArray n sl dd t) ⟨ho, ⟨.ref l, H, I, rfl, q⟩⟩⟩)
theorem opRepU {K : PySem.W.Frag} (e : X.K = K) : OpR X (binaryOp .Mult) (rRepU K) := by
  subst e
  exact op_repU
/-! ### == of dicts of ints -/
theorem hits_ints {A : Around} {s : Shared} {kvs : List (Key × V)} {vb : List (Key × Value)} (rb : KV kvs vb) {ks : List (Key × V)} {va : List (Key × Value)} (ra : KV ks va) :
    (∀ p ∈ ks, ∃ i j, p.2 = .int i ∧ valV kvs p.1 = some (.int j)) → PySem.W.KeqHits A s vb va (ks.all fun p => decide (valV kvs p.1 = some p.2)) := by
  unfold KV at ra
  induction ra with
  | nil => intro _; exact .nil
  | @cons p q ps qs h t ih =>
    intro hp
    obtain ⟨h1, h2⟩ := h
    obtain ⟨i, j, e, f⟩ := hp p List.mem_cons_self
    have rr : RelO (some (.int j)) (valueAt vb p.1) := by rw [← f]; exact rb.val p.1
    obtain ⟨y, hy, ry⟩ := rr.some_of
    obtain ⟨k, v⟩ := q
    have h1' : p.1 = k := h1
    rw [h1'] at hy
    obtain ⟨t2, rfl⟩ := ry
    have h2' : RelV p.2 v := h2
    rw [e] at h2'
    obtain ⟨t1, rfl⟩ := h2'
    have ee : decide (valV kvs p.1 = some p.2) = (i == j) := by
      rw [f, e]
      by_cases z : i = j
      · subst z
        simp
      · rw [decide_eq_false (fun w => z (V.int.inj (Option.some.inj w)).symm)]
        exact (beq_eq_false_iff_ne.mpr z).symm
    rw [List.all_cons, ee]
    exact .hit hy (SeqAt.EqAt.int_int i t1 j t2) (ih fun p' hp' => hp p' (List.mem_cons_of_mem _ hp'))
def rEqDI : R2 := fun x y H Q => ∃ a b ks ls, x = .ref a ∧ y = .ref b ∧ H a = some (.dK ks) ∧ H b = some (.dK ls) ∧ ks.length = ls.length ∧ (∀ p ∈ ks, ∃ i j, p.2 = .int i ∧ valV ls p.1 = some (.int j)) ∧ Q (.bl (ks.all fun p => decide (valV ls p.1 = some p.2))) H
theorem op_eq_dictI (hu : X.A.units < cLine) : OpR X (compareOp .Eq) rEqDI := by
  intro pins s σ H x y v u Q I rx ry h
  obtain ⟨a, b, ks, ls, rfl, rfl, ea, eb, hlen, hp, q⟩ := h
  obtain rfl : v = Value.ref a := rx
  obtain rfl : u = Value.ref b := ry
  obtain ⟨_, ya, va, ra, da⟩ := (show ObjOk X.prog X.w H s.heap a (.dK ks) from I.hok a _ ea)
  obtain ⟨_, yb, vb, rb, db⟩ := (show ObjOk X.prog X.w H s.heap b (.dK ls) from I.hok b _ eb)
  have hl : va.length = vb.length := by rw [← ra.length, ← rb.length]; exact hlen
  exact PySem.W.keq_eq (knd := mixKind X.prog X.w) ya yb da db hu (fun _ => hits_ints rb ra hp) (fin_bl I q (by simp [hl]))
/-! ### xs[i], by values -/
def rGetL (K : PySem.W.Frag) : V → V → Hp → VK → Prop := fun o i H Q => ∃ (p : Addr) (xs : List V) (j : Nat) (v : V), o = .ref p ∧ i = .int (j : Int) ∧ SqL K H p xs ∧ xs[j]? = some v ∧ Q v H
theorem get_list : PGet X (rGetL X.K) := by
  intro pins s σ H o i ov iv Q I ro ri h
  obtain ⟨p, xs, j, z, rfl, rfl, hq, he, q⟩ := h
  cases ro
  obtain ⟨t, rfl⟩ := ri
  obtain ⟨its, r, pl, hz⟩ := I.list hq
  obtain ⟨w, ew, rw'⟩ := r.get he
  have hl := r.length
  have hn := line63
  have hj : j < xs.length := (List.getElem?_eq_some_iff.mp he).1
  exact wpAny_getItem_list pl.isList (by omega) (by omega) (by simpa using ew) ⟨z, H, I, rw', q⟩
theorem getL {K : PySem.W.Frag} (e : X.K = K) : PGet X (rGetL K) := by
  subst e
  exact get_list
theorem crMin {K : PySem.W.Frag} (e : X.K = K) (hc : X.calm = true) : CallR X (.builtin "min") (rMin K) := by
  subst e
  exact cr_min hc
theorem mtIndex {K : PySem.W.Frag} (e : X.K = K) : MtR X "list.index" (rIndex K) := by
  subst e
  exact mt_index
theorem opEqD {K : PySem.W.Frag} (e : X.K = K) (hu : X.A.units + 64 < cLine) : OpR X (compareOp .Eq) (rEqD K) := by
  subst e
  exact op_eqD hu
theorem opNeD {K : PySem.W.Frag} (e : X.K = K) (hu : X.A.units + 64 < cLine) : OpR X (compareOp .NotEq) (rNeD K) := by
  subst e
  exact op_neD hu
theorem ixS {K : PySem.W.Frag} (e : X.K = K) : IxR X (rIx K) := by
  subst e
  exact ix_seq
def rListS' (K : PySem.W.Frag) : List V → Hp → VK → Prop := fun xs H Q => ∃ p ys, xs = [.ref p] ∧ (SqL K H p ys ∨ SqT K H p ys) ∧ ∀ l, H l = none → Q (.ref l) (upd H l (.lst ys))
theorem crList {K : PySem.W.Frag} (e : X.K = K) : CallR X (.type "list") (rListS' K) := by
  subst e
  exact call_list_of
theorem crSortS {K : PySem.W.Frag} (e : X.K = K) : CallR X (.builtin "sorted") (rSortedS K) := by
  subst e
  exact cr_sortedS
theorem piEnum {K : PySem.W.Frag} {e : Expr} {ta : TA} {p pos tpos : Pos} {elts : List Expr} {kk : Nat} (ek : X.K = K) (hg : Gl X "enumerate") (hm : X.mg "enumerate" = none) (ha : PA X [e] ta) (hs : starEach [e] X.env = [(false, eval e X.env)] := by rfl) :
    PI X (.Tuple elts kk tpos) (.Call (.Name "enumerate" p) [e] [] pos) (iEnumT K ta) := by
  subst ek
  exact pi_enumT hg hm ha hs
theorem piZipL {K : PySem.W.Frag} {e e2 : Expr} {ta : TA} {p pos tpos : Pos} {elts : List Expr} {kk : Nat} (ek : X.K = K) (hg : Gl X "zip") (hm : X.mg "zip" = none) (ha : PA X [e, e2] ta)
    (hs : starEach [e, e2] X.env = (false, eval e X.env) :: starEach [e2] X.env := by rfl) (hpl : (backTo pos (starEach [e2] X.env)).any (·.1) = false := by rfl) :
    PI X (.Tuple elts kk tpos) (.Call (.Name "zip" p) [e, e2] [] pos) (RZ.iZipA K ta) := by
  subst ek
  exact RZ.pi_zipA hg hm ha hs hpl
theorem piZipM {K : PySem.W.Frag} {e e2 : Expr} {ta : TA} {p pos tpos : Pos} {elts : List Expr} {kk : Nat} (ek : X.K = K) (hg : Gl X "zip") (hm : X.mg "zip" = none) (ha : PA X [e, e2] ta)
    (hs : starEach [e, e2] X.env = (false, eval e X.env) :: starEach [e2] X.env := by rfl) (hpl : (backTo pos (starEach [e2] X.env)).any (·.1) = false := by rfl) :
    PI X (.Tuple elts kk tpos) (.Call (.Name "zip" p) [e, e2] [] pos) (iZipM K ta) := by
  subst ek
  exact pi_zipM hg hm ha hs hpl
def rJoinS (K : PySem.W.Frag) : V → List V → Hp → VK → Prop := fun x xs H Q => ∃ a p, ∃ ys : List Str, x = .str a ∧ xs = [.ref p] ∧ (SqL K H p (ys.map V.str) ∨ SqT K H p (ys.map V.str)) ∧
      (ys.map (·.length)).sum + ys.length * a.length ≤ 16777216 ∧ Q (.str (Txt.join a ys)) H
theorem peJoin {K : PySem.W.Frag} {o e : Expr} {to te : TE} {apos pos : Pos} (ek : X.K = K) (ho : PE X o to) (he : PE X e te) (hs : starEach [e] X.env = [(false, eval e X.env)] := by rfl) (hbase : attributeBase o "join" X.env (eval o X.env) = eval o X.env := by rfl) (hline : (apos.endLine == pos.line) = true := by rfl) :
    PE X (.Call (.Attribute o "join" apos) [e] [] pos) (tM1 (rJoinS K) to te) := by
  subst ek
  exact pe_join ho he hs hbase hline
theorem pgTup {K : PySem.W.Frag} {es : List Expr} {k : Nat} {pos : Pos} {t : TGs} {n : Nat} (ek : X.K = K) (hc : X.calm = true) (h : PGs X es t)
    (hn : (assignEach es X.env).length = n := by rfl) (hst : (assignEach es X.env).findIdx? (·.1) = none := by rfl) : PG X (.Tuple es k pos) (gTup K n t) := by
  subst ek
  exact pg_tup hc h hn hst
theorem slA {K : PySem.W.Frag} (e : X.K = K) : SlR X (rSlA K) := by
  subst e
  exact sl_tupA
end
end NQ
/-! sorted of tuples with a text ahead, no text twice -/
namespace NQ
open PySem PySem.Spec PyProof.Rows L2
def IsNm (h : Heap) (v : Value) (x : Str) : Prop := ∃ a o t r n, v = .ref a ∧ h.get? a = some o ∧ o.cls = .type "tuple" ∧ o.data = .seq (Value.str x t :: r).toArray n
theorem IsNm.keeps {h h' : Heap} {v : Value} {x : Str} (p : IsNm h v x) (k : ∀ b o, h.get? b = some o → o.cls = .type "tuple" → h'.get? b = some o) : IsNm h' v x := by
  obtain ⟨a, o, t, r, n, e, ho, hc, hd⟩ := p
  exact ⟨a, o, t, r, n, e, k _ _ ho hc, hc, hd⟩
def lexS (x y : Str) : Bool := decide (x.cps.toList < y.cps.toList)
theorem lexS_no {x y : Str} : lexS x y = false ↔ ¬ x.cps.toList < y.cps.toList := by
  unfold lexS
  rw [decide_eq_false_iff_not]
theorem swo_str {α : Type} (k : α → Str) : SrtO.Swo fun v u => lexS (k v) (k u) := by
  refine ⟨fun x y h => ?_, fun x y z h1 h2 => ?_⟩
  · have a : (k x).cps.toList < (k y).cps.toList := of_decide_eq_true h
    exact lexS_no.mpr fun b => List.lt_irrefl _ (List.lt_trans a b)
  · have a := lexS_no.mp h1
    have b := lexS_no.mp h2
    refine lexS_no.mpr fun c => ?_
    rw [List.not_lt] at a b
    exact (List.not_lt.mpr (List.le_trans a b)) c
section
variable {prog : Program} {w : World} {A : Around} {E : Value → Shared → Prop} {s : Shared}
theorem kat_same {b fin : Bool} {Q : Bool → Shared → Prop} (h : Q fin s) : ∀ (l : List Value) (i : Nat), PySem.W.KatLex prog w A b fin Q (l.zip l) i s
  | [], _ => PySem.W.kat_nil h
  | v :: l, i => PySem.W.kat_cons (SeqAt.EqAt.same v prog w _ _ (PySem.W.kat_yes (kat_same h l (i + 1))))
theorem nm_cmp {vs : List Value} {k : Value → Str} (hp : ∀ v ∈ vs, IsNm s.heap v (k v)) (hi : ∀ v ∈ vs, ∀ u ∈ vs, k v = k u → v = u) : SrtO.Cmp prog w A s (tuples' true) (fun p => p.1 ∈ vs) (SrtO.lt2 fun v u => lexS (k v) (k u)) := by
  intro p q hm hm'
  have h1 := hp _ hm
  have h2 := hp _ hm'
  have hinj := hi _ hm _ hm'
  show wpAny (model prog w) A (keyLt' (tuples' true) p.1 q.1) (fun r s' => s' = s ∧ r = lexS (k p.1) (k q.1)) (fun _ _ => False) s
  unfold lexS
  generalize k p.1 = x at h1 hinj ⊢
  generalize k q.1 = x' at h2 hinj ⊢
  generalize p.1 = v at h1 hinj ⊢
  generalize q.1 = v' at h2 hinj ⊢
  obtain ⟨a, o, t, r, n, e, ho, hc, hd⟩ := h1
  obtain ⟨a', o', t', r', n', e', ho', hc', hd'⟩ := h2
  by_cases ex : x = x'
  · have ev := hinj ex
    subst ev
    rw [e] at e'
    cases e'
    rw [e]
    have eo := ho.symm.trans ho'
    cases eo
    refine PySem.W.kat_lt ho hd ho hd ?_
    refine kat_same ⟨rfl, ?_⟩ _ _
    rw [decide_eq_false (Nat.lt_irrefl _), ex, decide_eq_false (List.lt_irrefl _)]
  · rw [e, e']
    refine PySem.W.kat_lt ho hd ho' hd' ?_
    rw [show (Value.str x t :: r).toArray.toList = Value.str x t :: r from rfl, show (Value.str x' t' :: r').toArray.toList = Value.str x' t' :: r' from rfl, List.zip_cons_cons]
    refine PySem.W.kat_cons (SeqAt.EqAt.str_str x t x' t' prog w _ _ ?_)
    refine PySem.W.kat_go (fun e1 => absurd (by simpa using e1) ex) (fun _ => ?_)
    exact PySem.W.kat_no (oneLt_str ⟨rfl, rfl⟩)
theorem nm_firsts {h : Heap} {k : Value → Str} : ∀ {vs : List Value}, (∀ v ∈ vs, IsNm h v (k v)) → ∃ fs : List Value, PySem.W.KatTups h vs fs ∧ fs.length = vs.length ∧ ∀ f ∈ fs, ∃ x t, f = Value.str x t
  | [], _ => ⟨[], PySem.W.KatTups.nil, rfl, fun _ hm => by simp at hm⟩
  | v :: vs, hp => by
    obtain ⟨fs, h1, h2, h3⟩ := nm_firsts (vs := vs) fun v' hm => hp v' (List.mem_cons_of_mem _ hm)
    obtain ⟨a, o, t, r, n, e, ho, hc, hd⟩ := hp v (List.mem_cons_self ..)
    generalize k v = x at hd
    subst e
    refine ⟨.str x t :: fs, PySem.W.KatTups.cons ho hc hd rfl h1, by rw [List.length_cons, List.length_cons, h2], fun f hm => ?_⟩
    rcases List.mem_cons.mp hm with rfl | hm
    · exact ⟨x, t, rfl⟩
    · exact h3 f hm
theorem nm_sortable {a : Addr} {vs : List Value} {k : Value → Str} (h0 : 0 < vs.length) (hp : ∀ v ∈ vs, IsNm s.heap v (k v)) (hi : ∀ v ∈ vs, ∀ u ∈ vs, k v = k u → v = u) (ha : ∀ o, s.heap.get? a = some o → o.cls ≠ .type "tuple") : SrtO.SortableO prog w A s a vs fun v u => lexS (k v) (k u) := by
  intro h' keep
  have hp' : ∀ v ∈ vs, IsNm h' v (k v) := fun v hm => (hp v hm).keeps fun b o e c => keep b o (fun z => by subst z; exact ha o e c) e
  obtain ⟨fs, h1, h2, h3⟩ := nm_firsts hp'
  refine ⟨tuples' true, fun Q E hq => ?_, nm_cmp hp' hi⟩
  refine PySem.W.kat_kind (T := .type "str") h1 (by omega) (fun f hm => ?_) (by rfl) ?_
  · obtain ⟨x, t, rfl⟩ := h3 f hm
    exact PySem.W.Looks.now
  · have e : (Value.type "str" != Value.type "tuple") = true := by first | decide +kernel | rfl | decide
    rw [e]
    exact hq
theorem sorted_nm {l : Addr} {vs : List Value} {k : Value → Str} {Q : Value → Shared → Prop} (hl : s.heap.IsList l vs.toArray) (hz : vs.length ≤ sizeLine) (hp : ∀ v ∈ vs, IsNm s.heap v (k v)) (hi : ∀ v ∈ vs, ∀ u ∈ vs, k v = k u → v = u)
    (h : ∀ (h' : Heap) (d : Addr) (out : List Value), SrtO.Srtd (fun v u => lexS (k v) (k u)) out → SrtO.Stb (fun v u => lexS (k v) (k u)) out vs → (∀ b o, s.heap.get? b = some o → h'.get? b = some o) → s.heap.objs.size ≤ d → (∃ n, h'.get? d = some (seqObj "list" out.toArray n)) → Q (.ref d) { s with heap := h' }) :
    wpAny (model prog w) A (call (.builtin "sorted") [.ref l]) Q E s := by
  refine SrtO.sorted_ord (swo_str k) hl hz (fun h2 h₁ a ha kk => ?_) fun out hs hb => ?_
  · refine nm_sortable (s := { s with heap := h₁ }) (by omega) (fun v hm => (hp v hm).keeps fun b o e _ => (kk b o e).2) hi fun o e => ?_
    have e' : some o = some (seqObj "list" vs.toArray 0) := e.symm.trans ha
    cases e'
    intro c
    exact absurd (Value.type.inj c) (by decide)
  · exact h _ _ out hs hb (fun b o e => sortedAll_old e) (Nat.le_succ _) (sortedAll_at s.heap vs out.toArray)
end
/-- sorted(xs), xs a list of tuples with a text ahead (k says which), no text twice -/
def rSortedN (K : PySem.W.Frag) : List V → Hp → VK → Prop := fun vs H Q => ∃ (a : Addr) (xs : List V) (k : V → Str), vs = [V.ref a] ∧ SqL K H a xs ∧ (∀ x ∈ xs, ∃ t r, x = V.ref t ∧ H t = some (.tup (.str (k x) :: r))) ∧ (∀ x ∈ xs, ∀ y ∈ xs, k x = k y → x = y) ∧
  ∀ ys p, ys.Perm xs → ys.Pairwise (fun x y => ¬ (k y).cps.toList < (k x).cps.toList) → H p = none → Q (.ref p) (upd H p (.lst ys))
section
variable {X : Cx}
theorem cr_sortedN : CallR X (.builtin "sorted") (rSortedN X.K) := by
  intro pins s σ H vs us Q I r h
  obtain ⟨a, xs, k, rfl, hs, hx, hi, q⟩ := h
  obtain ⟨its, rv, hl, hz⟩ := I.list hs
  obtain ⟨u, rfl, ru⟩ := vals1 r
  obtain rfl : u = Value.ref a := ru
  obtain ⟨e1, e2⟩ := refs_back rv fun x m => by
    obtain ⟨t, r, e, _⟩ := hx x m
    exact ⟨t, e⟩
  refine sorted_nm (k := fun u => k (backV u)) hl.isList (by rw [← rv.length]; exact hz) (fun v hv => ?_) (fun v hv u hu hk => ?_) fun h' d out h1 h2 kp hd hn => ?_
  · obtain ⟨t, rfl⟩ := e2 v hv
    have hm : V.ref t ∈ xs := by rw [e1]; exact List.mem_map.mpr ⟨_, hv, rfl⟩
    obtain ⟨t', rr, e, ht⟩ := hx _ hm
    cases e
    obtain ⟨_, its2, r2, o, ho, hc, n, hd⟩ := I.hok _ _ ht
    cases r2 with
    | @cons _ u1 _ us2 q1 q2 =>
      obtain ⟨t1, rfl⟩ := q1
      exact ⟨t, o, t1, us2, n, rfl, ho, hc, hd⟩
  · obtain ⟨t, rfl⟩ := e2 v hv
    obtain ⟨t', rfl⟩ := e2 u hu
    have hm : V.ref t ∈ xs := by rw [e1]; exact List.mem_map.mpr ⟨_, hv, rfl⟩
    have hm' : V.ref t' ∈ xs := by rw [e1]; exact List.mem_map.mpr ⟨_, hu, rfl⟩
    have := hi _ hm _ hm' hk
    cases this
    rfl
  · have h3 : ∀ u ∈ out, ∃ a, u = Value.ref a := fun u hu => e2 u (h2.perm.mem_iff.mp hu)
    obtain ⟨n, hn⟩ := hn
    have hb : SrtO.Stb (fun x y => lexS (k x) (k y)) (out.map backV) xs := by
      rw [e1]
      exact SrtO.Stb.map (lt := fun x y => lexS (k x) (k y)) (swo_str k) backV h2
    refine ⟨.ref d, upd H d (.lst (out.map backV)), I.laid (t' := s.toks) kp hd ⟨?_, out, n, vals_back h3, hn⟩, rfl, q _ d hb.perm ?_ (I.hok.fresh hd)⟩
    · rw [hb.len]
      exact hz
    · exact List.Pairwise.imp (fun {x y} h => lexS_no.mp h) (SrtO.srtd_map (lt := fun x y => lexS (k x) (k y)) h1)
theorem crSortedN {K : PySem.W.Frag} (e : X.K = K) : CallR X (.builtin "sorted") (rSortedN K) := by
  subst e
  exact cr_sortedN
end
end NQ
namespace NQ
open PySem PySem.Spec PyProof.Rows L2
/-! ### the text -/
def topS (i : Nat) : Stmt := PySem.Challenge.pw_noringgains_k43_whole_queues_one_behind.main.body.getD i (.Pass ⟨0, 0, 0, 0⟩)
abbrev s_is_name : Stmt := topS 8
abbrev N_is_name : List Str := ["thing", "sign"]
theorem sc_is_name : FnScope N_is_name ["thing"] (defScope s_is_name) := ⟨rfl, rfl, rfl, by decide +kernel, rfl, by decide +kernel, by decide +kernel⟩

abbrev s_is_integer : Stmt := topS 13
abbrev N_is_integer : List Str := ["thing", "low", "high"]
theorem sc_is_integer : FnScope N_is_integer ["thing", "low", "high"] (defScope s_is_integer) := ⟨rfl, rfl, rfl, by decide +kernel, rfl, by decide +kernel, by decide +kernel⟩

abbrev s_are_payments : Stmt := topS 14
abbrev N_are_payments : List Str := ["thing", "house", "names", "pair"]
theorem sc_are_payments : FnScope N_are_payments ["thing", "house", "names"] (defScope s_are_payments) := ⟨rfl, rfl, rfl, by decide +kernel, rfl, by decide +kernel, by decide +kernel⟩

abbrev s_is_house_row : Stmt := topS 15
abbrev N_is_house_row : List Str := ["thing"]
theorem sc_is_house_row : FnScope N_is_house_row ["thing"] (defScope s_is_house_row) := ⟨rfl, rfl, rfl, by decide +kernel, rfl, by decide +kernel, by decide +kernel⟩

abbrev s_is_queues : Stmt := topS 16
abbrev N_is_queues : List Str := ["value", "houses", "part", "names", "one", "other"]
theorem sc_is_queues : FnScope N_is_queues ["value"] (defScope s_is_queues) := ⟨rfl, rfl, rfl, by decide +kernel, rfl, by decide +kernel, by decide +kernel⟩

abbrev s_check_queues : Stmt := topS 17
abbrev N_check_queues : List Str := ["queues"]
theorem sc_check_queues : FnScope N_check_queues ["queues"] (defScope s_check_queues) := ⟨rfl, rfl, rfl, by decide +kernel, rfl, by decide +kernel, by decide +kernel⟩

abbrev s_is_state_of : Stmt := topS 18
abbrev N_is_state_of : List Str := ["queues", "thing", "houses", "count", "part"]
theorem sc_is_state_of : FnScope N_is_state_of ["queues", "thing"] (defScope s_is_state_of) := ⟨rfl, rfl, rfl, by decide +kernel, rfl, by decide +kernel, by decide +kernel⟩

abbrev s_check_state : Stmt := topS 19
abbrev N_check_state : List Str := ["queues", "state"]
theorem sc_check_state : FnScope N_check_state ["queues", "state"] (defScope s_check_state) := ⟨rfl, rfl, rfl, by decide +kernel, rfl, by decide +kernel, by decide +kernel⟩

abbrev s_number_of : Stmt := topS 20
abbrev N_number_of : List Str := ["queues", "at", "part"]
theorem sc_number_of : FnScope N_number_of ["queues"] (defScope s_number_of) := ⟨rfl, rfl, rfl, by decide +kernel, rfl, by decide +kernel, by decide +kernel⟩

abbrev s_rich : Stmt := topS 21
abbrev N_rich : List Str := ["queues", "cash", "name", "own", "payments"]
theorem sc_rich : FnScope N_rich ["queues", "cash"] (defScope s_rich) := ⟨rfl, rfl, rfl, by decide +kernel, rfl, by decide +kernel, by decide +kernel⟩

abbrev s_pays_next : Stmt := topS 22
abbrev N_pays_next : List Str := ["queues", "numbers", "state", "balances", "at", "creditor", "amount"]
theorem sc_pays_next : FnScope N_pays_next ["queues", "numbers", "state", "balances", "at"] (defScope s_pays_next) := ⟨rfl, rfl, rfl, by decide +kernel, rfl, by decide +kernel, by decide +kernel⟩

abbrev s_balance_list : Stmt := topS 23
abbrev N_balance_list : List Str := ["queues", "state", "numbers", "found", "part", "at", "creditor", "amount"]
theorem sc_balance_list : FnScope N_balance_list ["queues", "state"] (defScope s_balance_list) := ⟨rfl, rfl, rfl, by decide +kernel, rfl, by decide +kernel, by decide +kernel⟩

abbrev s_paying : Stmt := topS 24
abbrev N_paying : List Str := ["queues", "state", "balances", "found", "at", "part"]
theorem sc_paying : FnScope N_paying ["queues", "state", "balances"] (defScope s_paying) := ⟨rfl, rfl, rfl, by decide +kernel, rfl, by decide +kernel, by decide +kernel⟩

abbrev s_end_of_all : Stmt := topS 25
abbrev N_end_of_all : List Str := ["queues", "part"]
theorem sc_end_of_all : FnScope N_end_of_all ["queues"] (defScope s_end_of_all) := ⟨rfl, rfl, rfl, by decide +kernel, rfl, by decide +kernel, by decide +kernel⟩

abbrev s_is_within : Stmt := topS 26
abbrev N_is_within : List Str := ["one", "other", "first", "second"]
theorem sc_is_within : FnScope N_is_within ["one", "other"] (defScope s_is_within) := ⟨rfl, rfl, rfl, by decide +kernel, rfl, by decide +kernel, by decide +kernel⟩

abbrev s_takes_back : Stmt := topS 28
abbrev N_takes_back : List Str := ["queues", "numbers", "state", "balances", "at", "creditor", "amount"]
theorem sc_takes_back : FnScope N_takes_back ["queues", "numbers", "state", "balances", "at"] (defScope s_takes_back) := ⟨rfl, rfl, rfl, by decide +kernel, rfl, by decide +kernel, by decide +kernel⟩

abbrev s_retreat_walk : Stmt := topS 29
abbrev N_retreat_walk : List Str := ["queues", "numbers", "state", "balances", "names", "at"]
theorem sc_retreat_walk : FnScope N_retreat_walk ["queues"] (defScope s_retreat_walk) := ⟨rfl, rfl, rfl, by decide +kernel, rfl, by decide +kernel, by decide +kernel⟩

abbrev s_greatest_feasible : Stmt := topS 30
abbrev N_greatest_feasible : List Str := ["queues"]
theorem sc_greatest_feasible : FnScope N_greatest_feasible ["queues"] (defScope s_greatest_feasible) := ⟨rfl, rfl, rfl, by decide +kernel, rfl, by decide +kernel, by decide +kernel⟩

abbrev s_run_walk : Stmt := topS 32
abbrev N_run_walk : List Str := ["queues", "numbers", "state", "balances", "names", "line", "at", "payments"]
theorem sc_run_walk : FnScope N_run_walk ["queues"] (defScope s_run_walk) := ⟨rfl, rfl, rfl, by decide +kernel, rfl, by decide +kernel, by decide +kernel⟩

abbrev s_final_state : Stmt := topS 33
abbrev N_final_state : List Str := ["queues"]
theorem sc_final_state : FnScope N_final_state ["queues"] (defScope s_final_state) := ⟨rfl, rfl, rfl, by decide +kernel, rfl, by decide +kernel, by decide +kernel⟩

abbrev s_gridlock_paper : Stmt := topS 35
abbrev N_gridlock_paper : List Str := ["queues", "back", "greatest", "steps", "final"]
theorem sc_gridlock_paper : FnScope N_gridlock_paper ["queues"] (defScope s_gridlock_paper) := ⟨rfl, rfl, rfl, by decide +kernel, rfl, by decide +kernel, by decide +kernel⟩

abbrev s_check_house : Stmt := topS 37
abbrev N_check_house : List Str := ["queues", "house"]
theorem sc_check_house : FnScope N_check_house ["queues", "house"] (defScope s_check_house) := ⟨rfl, rfl, rfl, by decide +kernel, rfl, by decide +kernel, by decide +kernel⟩

abbrev s_needed : Stmt := topS 38
abbrev N_needed : List Str := ["queues", "house", "goal", "poor", "numbers", "at", "state", "lent", "steps", "last", "balances", "line", "loan", "each"]
theorem sc_needed : FnScope N_needed ["queues", "house", "goal"] (defScope s_needed) := ⟨rfl, rfl, rfl, by decide +kernel, rfl, by decide +kernel, by decide +kernel⟩

abbrev s_needed_cash : Stmt := topS 39
abbrev N_needed_cash : List Str := ["queues", "house", "goal"]
theorem sc_needed_cash : FnScope N_needed_cash ["queues", "house", "goal"] (defScope s_needed_cash) := ⟨rfl, rfl, rfl, by decide +kernel, rfl, by decide +kernel, by decide +kernel⟩

abbrev s__law_begun : Stmt := topS 41
abbrev N__law_begun : List Str := ["script", "wide", "grain"]
theorem sc__law_begun : FnScope N__law_begun ["script"] (defScope s__law_begun) := ⟨rfl, rfl, rfl, by decide +kernel, rfl, by decide +kernel, by decide +kernel⟩

abbrev s__law_mixed : Stmt := topS 42
abbrev N__law_mixed : List Str := ["draw", "turn", "found", "prime", "blend", "grain"]
theorem sc__law_mixed : FnScope N__law_mixed ["draw"] (defScope s__law_mixed) := ⟨rfl, rfl, rfl, by decide +kernel, rfl, by decide +kernel, by decide +kernel⟩

abbrev s__law_take : Stmt := topS 43
abbrev N__law_take : List Str := ["draw", "many", "found"]
theorem sc__law_take : FnScope N__law_take ["draw", "many"] (defScope s__law_take) := ⟨rfl, rfl, rfl, by decide +kernel, rfl, by decide +kernel, by decide +kernel⟩

abbrev s__law_pick : Stmt := topS 44
abbrev N__law_pick : List Str := ["draw", "some"]
theorem sc__law_pick : FnScope N__law_pick ["draw", "some"] (defScope s__law_pick) := ⟨rfl, rfl, rfl, by decide +kernel, rfl, by decide +kernel, by decide +kernel⟩

abbrev s__law_shuffled : Stmt := topS 45
abbrev N__law_shuffled : List Str := ["draw", "some", "left", "found"]
theorem sc__law_shuffled : FnScope N__law_shuffled ["draw", "some"] (defScope s__law_shuffled) := ⟨rfl, rfl, rfl, by decide +kernel, rfl, by decide +kernel, by decide +kernel⟩

abbrev s__law_names : Stmt := topS 46
abbrev N__law_names : List Str := ["draw", "many", "letters", "shift", "step", "cut", "common", "k", "is_alike", "found", "body", "lap", "own", "text", "at"]
theorem sc__law_names : FnScope N__law_names ["draw", "many"] (defScope s__law_names) := ⟨rfl, rfl, rfl, by decide +kernel, rfl, by decide +kernel, by decide +kernel⟩

abbrev s__law_lists : Stmt := topS 47
abbrev N__law_lists : List Str := ["draw", "names", "most", "top", "payments", "cash", "name", "lap", "some", "amount", "is_even", "k", "one", "other"]
theorem sc__law_lists : FnScope N__law_lists ["draw", "names", "most", "top"] (defScope s__law_lists) := ⟨rfl, rfl, rfl, by decide +kernel, rfl, by decide +kernel, by decide +kernel⟩

abbrev s__law_state : Stmt := topS 48
abbrev N__law_state : List Str := ["queues", "told", "house"]
theorem sc__law_state : FnScope N__law_state ["queues", "told"] (defScope s__law_state) := ⟨rfl, rfl, rfl, by decide +kernel, rfl, by decide +kernel, by decide +kernel⟩

abbrev s__law_held : Stmt := topS 49
abbrev N__law_held : List Str := ["queues", "told", "found", "house", "name", "cash", "payments", "creditor", "amount"]
theorem sc__law_held : FnScope N__law_held ["queues", "told"] (defScope s__law_held) := ⟨rfl, rfl, rfl, by decide +kernel, rfl, by decide +kernel, by decide +kernel⟩

abbrev s__law_run_out : Stmt := topS 50
abbrev N__law_run_out : List Str := ["queues", "told", "house", "lap", "held", "some", "name", "cash", "payments"]
theorem sc__law_run_out : FnScope N__law_run_out ["queues"] (defScope s__law_run_out) := ⟨rfl, rfl, rfl, by decide +kernel, rfl, by decide +kernel, by decide +kernel⟩

abbrev s__law_drawn_back : Stmt := topS 51
abbrev N__law_drawn_back : List Str := ["queues", "told", "house", "lap", "held", "some", "name"]
theorem sc__law_drawn_back : FnScope N__law_drawn_back ["queues"] (defScope s__law_drawn_back) := ⟨rfl, rfl, rfl, by decide +kernel, rfl, by decide +kernel, by decide +kernel⟩

abbrev s__law_richer : Stmt := topS 52
abbrev N__law_richer : List Str := ["queues", "house", "cash", "name", "own", "payments"]
theorem sc__law_richer : FnScope N__law_richer ["queues", "house", "cash"] (defScope s__law_richer) := ⟨rfl, rfl, rfl, by decide +kernel, rfl, by decide +kernel, by decide +kernel⟩

abbrev s__law_linked : Stmt := topS 53
abbrev N__law_linked : List Str := ["one", "other", "house", "goal", "many", "found", "name", "cash", "payments"]
theorem sc__law_linked : FnScope N__law_linked ["one", "other", "house", "goal", "many"] (defScope s__law_linked) := ⟨rfl, rfl, rfl, by decide +kernel, rfl, by decide +kernel, by decide +kernel⟩

abbrev s__law_more : Stmt := topS 54
abbrev N__law_more : List Str := ["queues", "house", "cash", "name", "own", "payments"]
theorem sc__law_more : FnScope N__law_more ["queues", "house", "cash"] (defScope s__law_more) := ⟨rfl, rfl, rfl, by decide +kernel, rfl, by decide +kernel, by decide +kernel⟩

abbrev s_law : Stmt := topS 55
abbrev N_law : List Str := ["script", "draw", "turn", "names", "one", "other", "house", "goal", "many", "name", "cash", "payments", "both", "comes", "work", "own", "first", "told", "flows", "start", "aim", "part", "wide", "paid", "need", "is_enough", "rich_v", "come"]
theorem sc_law : FnScope N_law ["script"] (defScope s_law) := ⟨rfl, rfl, rfl, by decide +kernel, rfl, by decide +kernel, by decide +kernel⟩

/-! ### what the top has left -/
abbrev keptL : List Str := ["cannot", "done", "none", "nothing", "row", "what"]
abbrev lettersS : Str := "abcdefghijklmnopqrstuvwxyz"
structure Tk where
  l : Tok
  h : Tok
  p : Tok
  c : Tok
structure Tx (K : PySem.W.Frag) (mg : Str → Option Value) (aK : Addr) (tk : Tk) : Prop where
  len : mg "len" = none
  isinstance : mg "isinstance" = none
  all : mg "all" = none
  tuple : mg "tuple" = none
  dict : mg "dict" = none
  range : mg "range" = none
  int : mg "int" = none
  str : mg "str" = none
  bool : mg "bool" = none
  list : mg "list" = none
  abs : mg "abs" = none
  min : mg "min" = none
  sorted : mg "sorted" = none
  enumerate : mg "enumerate" = none
  zip : mg "zip" = none
  g_KEPT : mg "KEPT" = some (.ref aK)
  g_LETTERS : mg "LETTERS" = some (.str lettersS tk.l)
  g_MOST_HOUSES : mg "MOST_HOUSES" = some (.int 40 tk.h)
  g_MOST_PAYMENTS : mg "MOST_PAYMENTS" = some (.int 60 tk.p)
  g_MOST_CASH : mg "MOST_CASH" = some (.int 1000000 tk.c)
  k_KEPT : ∃ (o : Obj) (its : Array Value) (n : Nat), K.lookup aK = some o ∧ o.cls = .type "tuple" ∧ o.data = .seq its n ∧ its.size ≤ sizeLine ∧ Vals (keptL.map V.str) its.toList
section
variable {K : PySem.W.Frag} {mg : Str → Option Value} {aK : Addr} {tk : Tk}
theorem Tx.r_KEPT (_ : Tx K mg aK tk) : RelV (.ref aK) (.ref aK) := rfl
theorem Tx.r_LETTERS (_ : Tx K mg aK tk) : RelV (.str lettersS) (.str lettersS tk.l) := ⟨tk.l, rfl⟩
theorem Tx.r_MOST_HOUSES (_ : Tx K mg aK tk) : RelV (.int 40) (.int 40 tk.h) := ⟨tk.h, rfl⟩
theorem Tx.r_MOST_PAYMENTS (_ : Tx K mg aK tk) : RelV (.int 60) (.int 60 tk.p) := ⟨tk.p, rfl⟩
theorem Tx.r_MOST_CASH (_ : Tx K mg aK tk) : RelV (.int 1000000) (.int 1000000 tk.c) := ⟨tk.c, rfl⟩
theorem Tx.s_KEPT (T : Tx K mg aK tk) (H : Hp) : SqT K H aK (keptL.map V.str) := Or.inr T.k_KEPT
end
end NQ
namespace NQ
open PySem PySem.Spec PyProof.Rows L2 Evl
abbrev AscS (l : List Str) : Prop := l.Pairwise fun x y => x.cps.toList < y.cps.toList
theorem get_of {α : Type} {l : List α} {n i : Nat} (hl : l.length = n) (hi : i < n) : ∃ x, l[i]? = some x := ⟨l[i], List.getElem?_eq_getElem (by omega)⟩
theorem map_at {α β : Type} {g : α → β} {l : List α} {i : Nat} {y : β} (h : (l.map g)[i]? = some y) : ∃ x, l[i]? = some x ∧ y = g x := by
  rw [List.getElem?_map] at h
  cases e : l[i]? with
  | none =>
    rw [e] at h
    cases h
  | some x =>
    rw [e] at h
    exact ⟨x, rfl, (Option.some.inj h).symm⟩
theorem asc_at {α : Type} {R : α → α → Prop} {l : List α} (h : l.Pairwise R) {i : Nat} {x y : α} (hx : l[i]? = some x) (hy : l[i + 1]? = some y) : R x y := by
  obtain ⟨h1, rfl⟩ := List.getElem?_eq_some_iff.mp hx
  obtain ⟨h2, rfl⟩ := List.getElem?_eq_some_iff.mp hy
  exact List.pairwise_iff_getElem.mp h i (i + 1) h1 h2 (by omega)
theorem valV_merge_not {k : Key} : ∀ {kvs acc : List (Key × V)}, k ∉ kvs.map (·.1) → valV (mergeK acc kvs) k = valV acc k
  | [], _, _ => rfl
  | p :: r, acc, h => by
    have h1 : k ≠ p.1 := fun e => h (by rw [e]; exact List.mem_cons_self)
    have h2 : k ∉ r.map (·.1) := fun e => h (List.mem_cons_of_mem _ e)
    show valV (mergeK (putK acc p.1 p.2) r) k = _
    rw [valV_merge_not h2, valV_put, if_neg h1]
theorem valV_merge_get {k : Key} {v : V} : ∀ {kvs acc : List (Key × V)} {i : Nat}, (kvs.map (·.1)).Nodup → kvs[i]? = some (k, v) → valV (mergeK acc kvs) k = some v
  | [], _, _, _, h => by simp at h
  | p :: r, acc, 0, hn, h => by
    have e : p = (k, v) := Option.some.inj h
    subst e
    have h2 : k ∉ r.map (·.1) := (List.nodup_cons.mp hn).1
    show valV (mergeK (putK acc k v) r) k = _
    rw [valV_merge_not h2, valV_put, if_pos rfl]
  | p :: r, acc, i + 1, hn, h => by
    show valV (mergeK (putK acc p.1 p.2) r) k = _
    exact valV_merge_get (List.nodup_cons.mp hn).2 (by simpa using h)
theorem isSome_merge {k : Key} : ∀ {kvs acc : List (Key × V)}, (valV (mergeK acc kvs) k).isSome = true ↔ (valV acc k).isSome = true ∨ k ∈ kvs.map (·.1)
  | [], acc => by
    show (valV acc k).isSome = true ↔ _
    simp
  | p :: r, acc => by
    show (valV (mergeK (putK acc p.1 p.2) r) k).isSome = true ↔ _
    rw [isSome_merge, valV_put]
    by_cases e : k = p.1
    · rw [if_pos e, List.map_cons, e]
      simp
    · rw [if_neg e, List.map_cons, List.mem_cons]
      constructor
      · rintro (h | h)
        · exact .inl h
        · exact .inr (.inr h)
      · rintro (h | h | h)
        · exact .inl h
        · exact absurd h e
        · exact .inr h
theorem paired_of {α β : Type} {F : α → β → Prop} : ∀ {xs : List α} {ys : List β}, xs.length = ys.length → (∀ (i : Nat) x y, xs[i]? = some x → ys[i]? = some y → F x y) → Paired F xs ys
  | [], [], _, _ => .nil
  | x :: xs, y :: ys, hl, h => .cons (h 0 x y rfl rfl) (paired_of (by simpa using hl) fun i a b ha hb => h (i + 1) a b (by simpa using ha) (by simpa using hb))
theorem asc_nodup : ∀ {zs : List Str}, AscS zs → zs.Nodup := fun {zs} h => h.imp fun {a b} hab e => by
  subst e
  exact List.lt_irrefl _ hab
theorem mem_zip_at {α β : Type} {xs : List α} {ys : List β} {r : α × β} (h : r ∈ xs.zip ys) : ∃ j : Nat, xs[j]? = some r.1 ∧ ys[j]? = some r.2 := by
  obtain ⟨j, hj⟩ := List.mem_iff_getElem?.mp h
  rw [List.getElem?_zip_eq_some] at hj
  exact ⟨j, hj⟩
theorem snoc_at {α : Type} {xs : List α} {y z : α} {i j : Nat} (hl : xs.length = i) (h : (xs ++ [y])[j]? = some z) : (j < i ∧ xs[j]? = some z) ∨ (j = i ∧ z = y) := by
  by_cases hj : j < i
  · rw [List.getElem?_append_left (by omega)] at h
    exact Or.inl ⟨hj, h⟩
  · have hj2 : j = i := by
      have := (List.getElem?_eq_some_iff.mp h).1
      rw [List.length_append, List.length_singleton] at this
      omega
    subst hj2
    rw [List.getElem?_append_right (by omega), hl, Nat.sub_self] at h
    cases h
    exact Or.inr ⟨rfl, rfl⟩
theorem str_ne {x y : Str} (h : x ≠ y) : x.cps.toList ≠ y.cps.toList := fun e => h (by
  obtain ⟨⟨a⟩⟩ := x
  obtain ⟨⟨b⟩⟩ := y
  have e' : a = b := e
  rw [e'])
theorem rising_asc : ∀ (l : List Str) (p : Str), risingS p l = true → (p :: l).Nodup → AscS (p :: l)
  | [], p, _, _ => List.pairwise_singleton _ _
  | x :: r, p, h, hn => by
    obtain ⟨n1, n2⟩ := List.nodup_cons.mp hn
    have h' : (!ltCps x.cps.toList p.cps.toList && risingS x r) = true := h
    rw [Bool.and_eq_true, Bool.not_eq_true', ltCps_eq] at h'
    have ih := rising_asc r x h'.2 n2
    have hlt : p.cps.toList < x.cps.toList := Std.lt_of_le_of_ne (List.not_lt.mp (of_decide_eq_false h'.1)) (str_ne fun e => n1 (by rw [e]; exact List.mem_cons_self))
    refine List.pairwise_cons.mpr ⟨fun y hy => ?_, ih⟩
    rcases List.mem_cons.mp hy with e | e
    · rw [e]
      exact hlt
    · exact List.lt_trans hlt ((List.pairwise_cons.mp ih).1 y e)
theorem sorted_asc {l : List Str} (h : sortedS l = true) (hn : l.Nodup) : AscS l := by
  cases l with
  | nil => exact List.Pairwise.nil
  | cons x r => exact rising_asc r x h hn
theorem erase_perm {α : Type} : ∀ (l : List α) {i : Nat} (h : i < l.length), ([l[i]] ++ l.eraseIdx i).Perm l
  | x :: r, 0, _ => List.Perm.refl _
  | x :: r, i + 1, h => (List.Perm.swap x _ _).trans ((erase_perm r (i := i) (by simpa using h)).cons x)
theorem map_erase {α β : Type} (g : α → β) : ∀ (l : List α) (i : Nat), (l.map g).eraseIdx i = (l.eraseIdx i).map g
  | [], _ => rfl
  | x :: r, 0 => rfl
  | x :: r, i + 1 => by
    show g x :: (r.map g).eraseIdx i = g x :: (r.eraseIdx i).map g
    rw [map_erase g r i]
theorem seqIx {i n : Nat} (h : i < n) : seqIndex? (i : Int) n = some i := by
  have h1 : ¬ (i : Int) < 0 := by omega
  have h2 : (i : Int) < (n : Int) := by omega
  unfold seqIndex?
  simp [h1, h2, h]
theorem atI_mem {xs : List V} {i : Nat} (hi : i < xs.length) : ∃ x, x ∈ xs ∧ atI xs (i : Int) = some x := ⟨xs[i], List.getElem_mem hi, at_of rfl (List.getElem?_eq_getElem hi)⟩
theorem cut_front (xs : List V) (n : Nat) : cutV xs none (some (n : Int)) = xs.take n := by
  unfold cutV
  rw [HT.sIx_none, show HT.sIx xs.length xs.length (some (n : Int)) = min n xs.length from HT.sIx_nat _ _ n, List.drop_zero, Nat.sub_zero]
  rw [Nat.min_comm, List.take_eq_take_iff]
  omega
theorem cut_rest (xs : List V) : cutV xs (some 1) none = xs.drop 1 := by
  have h : xs.length - min 1 xs.length = (xs.drop 1).length := by
    rw [List.length_drop]
    omega
  unfold cutV
  rw [HT.sIx_none, show HT.sIx xs.length 0 (some 1) = min 1 xs.length from HT.sIx_nat _ _ 1, h]
  cases xs with
  | nil => rfl
  | cons x r =>
    rw [show min 1 (x :: r).length = 1 by rw [List.length_cons]; omega]
    exact List.take_length
theorem putK_len {kvs : List (Key × V)} {k : Key} {v w : V} (h : valV kvs k = some w) : (putK kvs k v).length = kvs.length := by
  unfold putK
  rw [valV_any, h]
  rw [if_pos (show (some w).isSome = true from rfl), List.length_map]
section
variable {K : PySem.W.Frag} {σ : L2.St} {H H' : Hp} {ta tb te tx td ty : TE} {t u : TT} {x y z v : V} {tr : TA} {D : Ends} {tz : TS}
theorem ev_dget {k : Key} {D : Addr} {kvs : List (Key × V)} (hd : Ev td σ H (.ref D)) (hk : Ev ty σ H (kV k)) (hD : H D = some (.dK kvs)) (hv : valV kvs k = some v) : Ev (tDGet td ty) σ H v := fun H1 e Q q => by
  refine hd H1 e _ fun H2 e2 => ?_
  refine hk H2 (e.trans e2) _ fun H3 e3 => ?_
  have g := DGet.k (k := k) (((e.trans e2).trans e3) _ _ hD)
  rw [hv] at g
  exact ⟨D, v, rfl, g, q H3 (e2.trans e3)⟩
theorem ed_dget {k : Key} {kvs : List (Key × V)} (hd : EvD td σ H kvs) (hk : Ev ty σ H (kV k)) (hv : valV kvs k = some v) : Ev (tDGet td ty) σ H v := fun H1 e Q q => by
  refine hd H1 e _ fun D H2 _ e2 hD => ?_
  refine hk H2 (e.trans e2) _ fun H3 e3 => ?_
  have g := DGet.k (k := k) (e3 _ _ hD)
  rw [hv] at g
  exact ⟨D, v, rfl, g, q H3 (e2.trans e3)⟩
theorem ev_din {k : Key} {D : Addr} {kvs : List (Key × V)} (hk : Ev ty σ H (kV k)) (hd : Ev td σ H (.ref D)) (hD : H D = some (.dK kvs)) : Ev (tDIn ty td) σ H (.bl (valV kvs k).isSome) := fun H1 e Q q => by
  refine hk H1 e _ fun H2 e2 => ?_
  refine hd H2 (e.trans e2) _ fun H3 e3 => ?_
  exact ⟨D, valV kvs k, rfl, DGet.k (((e.trans e2).trans e3) _ _ hD), q H3 (e2.trans e3)⟩
theorem ed_din {k : Key} {kvs : List (Key × V)} (hk : Ev ty σ H (kV k)) (hd : EvD td σ H kvs) : Ev (tDIn ty td) σ H (.bl (valV kvs k).isSome) := fun H1 e Q q => by
  refine hk H1 e _ fun H2 e2 => ?_
  refine hd H2 (e.trans e2) _ fun D H3 _ e3 hD => ?_
  exact ⟨D, valV kvs k, rfl, DGet.k hD, q H3 (e2.trans e3)⟩
theorem ed_dnotin {k : Key} {kvs : List (Key × V)} (hk : Ev ty σ H (kV k)) (hd : EvD td σ H kvs) : Ev (tDNotIn ty td) σ H (.bl (!(valV kvs k).isSome)) := fun H1 e Q q => by
  refine hk H1 e _ fun H2 e2 => ?_
  refine hd H2 (e.trans e2) _ fun D H3 _ e3 hD => ?_
  exact ⟨D, valV kvs k, rfl, DGet.k hD, q H3 (e2.trans e3)⟩
theorem ev_mul {i j : Int} (ha : Ev ta σ H (.int i)) (hb : Ev tb σ H (.int j)) (hc : CMul i j) : Ev (tOp (rI CMul fun i j => .int (i * j)) ta tb) σ H (.int (i * j)) := ev_op ha hb (rv_I hc)
theorem ev_fdiv {i j : Int} (ha : Ev ta σ H (.int i)) (hb : Ev tb σ H (.int j)) (hc : CDiv i j) : Ev (tOp (rI CDiv fun i j => .int (i / j)) ta tb) σ H (.int (i / j)) := ev_op ha hb (rv_I hc)
theorem ev_mod {i j : Int} (ha : Ev ta σ H (.int i)) (hb : Ev tb σ H (.int j)) (hc : 0 < j) : Ev (tOp (rI (fun _ j => 0 < j) fun i j => .int (i % j)) ta tb) σ H (.int (i % j)) := ev_op ha hb (rv_I hc)
theorem ev_pow {i j : Int} (ha : Ev ta σ H (.int i)) (hb : Ev tb σ H (.int j)) (hc : CPow i j) : Ev (tOp (rI CPow fun i j => .int (i ^ j.toNat)) ta tb) σ H (.int (i ^ j.toNat)) := ev_op ha hb (rv_I hc)
theorem ev_int {i : Int} (ha : Ev ta σ H (.int i)) : Ev (tCB (fun xs H Q => (∃ i, xs = [.int i] ∧ Q (.int i) H) ∨ ∃ k, xs = [.bl k] ∧ Q (.int (if k then 1 else 0)) H) (tCons ta tNil)) σ H (.int i) := fun H1 e Q q => by
  refine ha H1 e _ fun H2 e2 => ?_
  exact Or.inl ⟨i, rfl, q H2 e2⟩
theorem ev_abs {i : Int} (ha : Ev ta σ H (.int i)) : Ev (tCB (fun xs H Q => ∃ i, xs = [.int i] ∧ Q (.int (if i < 0 then -i else i)) H) (tCons ta tNil)) σ H (.int (if i < 0 then -i else i)) := fun H1 e Q q => by
  refine ha H1 e _ fun H2 e2 => ?_
  exact ⟨i, rfl, q H2 e2⟩
theorem ev_neNil {p : Addr} {xs : List V} {ds : List PyData} (ha : Ev ta σ H (.ref p)) (hp : H p = some (.lst xs)) (hd : DpAll K H xs ds) (hds : ∀ H1, Ex H H1 → DpAll K H1 xs ds) (hs : SeqAt.shaped (.list ds) = true) : Ev (tOp (rNeD K) ta (tLst tNil)) σ H (.bl (!xs.isEmpty)) := fun H1 e Q q => by
  refine ha H1 e _ fun H2 e2 => ?_
  refine ⟨Nat.zero_le _, fun n hn => ?_⟩
  have x1 : Ex H2 (upd H2 n (.lst [])) := Ex.new hn
  have e3 := (e.trans e2).trans x1
  refine ⟨.list ds, .list [], .lst (sq_of (e3 _ _ hp)) (hds _ e3), .lst (sq_of upd_same) .nil, hs, by decide, ?_⟩
  have eb : PyData.eqv (.list ds) (.list []) = xs.isEmpty := by
    cases xs with
    | nil =>
      cases hd
      rfl
    | cons x r =>
      cases hd
      rfl
  rw [eb]
  exact q _ (e2.trans x1)
theorem dp_ints (H : Hp) : ∀ ns : List Int, DpAll K H (ns.map V.int) (ns.map PyData.int)
  | [] => .nil
  | n :: r => .cons (.int n) (dp_ints H r)
theorem canLay_ints : ∀ ns : List Int, PyData.canLayAll0 (ns.map PyData.int) = true
  | [] => by simp [PyData.canLayAll0]
  | n :: r => by
    rw [List.map_cons, PyData.canLayAll0, canLay_ints r]
    simp [PyData.canLay0]
theorem depth_ints : ∀ ns : List Int, PyData.depthAll (ns.map PyData.int) = 0
  | [] => by simp [PyData.depthAll]
  | n :: r => by
    rw [List.map_cons, PyData.depthAll, depth_ints r]
    simp [PyData.depth]
theorem shaped_ints (ns : List Int) : SeqAt.shaped (.list (ns.map PyData.int)) = true := by
  unfold SeqAt.shaped
  rw [PyData.canLay0, canLay_ints, PyData.depth, depth_ints]
  rfl
theorem dp_strs {K : PySem.W.Frag} (H : Hp) : ∀ zs : List Str, DpAll K H (zs.map V.str) (zs.map PyData.str)
  | [] => .nil
  | n :: r => .cons (.str n) (dp_strs H r)
theorem canLay_strs : ∀ zs : List Str, (∀ z ∈ zs, PyData.strOk z = true) → PyData.canLayAll0 (zs.map PyData.str) = true
  | [], _ => by simp [PyData.canLayAll0]
  | n :: r, h => by
    rw [List.map_cons, PyData.canLayAll0, canLay_strs r fun z hz => h z (List.mem_cons_of_mem _ hz), PyData.canLay0, h n List.mem_cons_self]
    rfl
theorem depth_strs : ∀ zs : List Str, PyData.depthAll (zs.map PyData.str) = 0
  | [] => by simp [PyData.depthAll]
  | n :: r => by
    rw [List.map_cons, PyData.depthAll, depth_strs r]
    simp [PyData.depth]
theorem shaped_strs {zs : List Str} (h : ∀ z ∈ zs, PyData.strOk z = true) : SeqAt.shaped (.list (zs.map PyData.str)) = true := by
  unfold SeqAt.shaped
  rw [PyData.canLay0, canLay_strs zs h, PyData.depth, depth_strs]
  rfl
theorem ev_lenA {p : Addr} {xs : List V} (ha : Ev ta σ H (.ref p)) (h : ∀ H1, Ex H H1 → SqL K H1 p xs ∨ SqT K H1 p xs) : Ev (tCB (rLenS K) (tCons ta tNil)) σ H (.int (xs.length : Int)) := fun H1 e Q q => by
  refine ha H1 e _ fun H2 e2 => ?_
  exact ⟨p, xs, rfl, h H2 (e.trans e2), q H2 e2⟩
abbrev rIsNon : R2 := fun x y H Q => y = .non ∧ Q (.bl (decide (x = .non))) H
theorem ev_isNon (ha : Ev ta σ H x) : Ev (tOp rIsNon ta (tC .non)) σ H (.bl (decide (x = .non))) := ev_op ha ev_c fun H1 _ _ q => ⟨rfl, q H1 (Ex.refl H1)⟩
theorem ev_eqI {i j : Int} (ha : Ev ta σ H (.int i)) (hb : Ev tb σ H (.int j)) : Ev (tOp rEq ta tb) σ H (.bl (decide (i = j))) := ev_is (ev_op ha hb (rv_eq rfl)) (by
  by_cases h : i = j
  · rw [decide_eq_true h, decide_eq_true (show V.int i = V.int j by rw [h])]
  · rw [decide_eq_false h, decide_eq_false (fun z => h (V.int.inj z))])
theorem q_asgT2 {p : Addr} {i j : Nat} (h : Ev te σ H (.ref p)) (hp : H p = some (.tup [x, y])) (k : ∀ H1, Ex H H1 → tz D ((σ.set i (some x)).set j (some y)) H1) :
    tSeq (tAsg te (gTup K 2 (gCons (gName i) (gCons (gName j) gNil)))) tz D σ H := h H (Ex.refl H) _ fun H1 e => ⟨p, [x, y], rfl, st_of (e _ _ hp), rfl, x, [y], rfl, y, [], rfl, rfl, k H1 e⟩
theorem gv_tup2 {ys : List V} (ha : Ev ta σ H x) (hb : EvU tb σ H ys) : Gv (tTup (tCons ta (tCons tb tNil))) σ H (fun v H2 => ∃ p q, v = .ref p ∧ H2 p = some (.tup [x, .ref q]) ∧ H2 q = some (.tup ys)) := fun H1 e Q k => by
  refine ha H1 e _ fun H2 e2 => ?_
  refine hb H2 (e.trans e2) _ fun q H3 _ e3 hq => ?_
  refine ⟨(by show 2 ≤ sizeLine; decide), fun p hp => ?_⟩
  refine k _ _ ((e2.trans e3).trans (Ex.new hp)) ⟨p, q, rfl, upd_same, ?_⟩
  rw [upd_ne (ne_of_none hq hp)]
  exact hq
theorem s_appG {l : Addr} {xs : List V} {P : V → Hp → Prop} (hl : H l = some (.lst xs)) (ha : Ev ta σ H (.ref l)) (h : Gv te σ H P) (hz : xs.length < 100000) (k : ∀ v H1, Ex H H1 → P v H1 → D.nx σ (upd H1 l (.lst (xs ++ [v])))) :
    tDrop (tBM K "list" rAppend ta (tCons te tNil)) D σ H := ha H (Ex.refl H) _ fun H1 e1 =>
  ⟨Or.inl ⟨rfl, xs, sq_of (e1 l _ hl)⟩, h H1 e1 _ fun v H2 e2 hv => ⟨l, xs, v, rfl, rfl, e2 l _ (e1 l _ hl), sz_lt hz, k v H2 (e1.trans e2) hv⟩⟩
theorem inV_ints (d : Int) (ns : List Int) : inV (.int d) (ns.map V.int) = decide (d ∈ ns) := by
  unfold inV
  rw [List.any_map]
  by_cases h : d ∈ ns
  · rw [decide_eq_true h]
    exact List.any_eq_true.mpr ⟨d, h, by show (d == d) = true; simp⟩
  · rw [decide_eq_false h]
    refine List.any_eq_false.mpr fun n hn => ?_
    show ¬ (n == d) = true
    intro e
    have := eq_of_beq e
    subst this
    exact h hn
theorem q_asgK {i : Nat} (h : te σ H fun v H1 => tz D (σ.set i (some v)) H1) : tSeq (tAsg te (gName i)) tz D σ H := h
theorem q_ifM {b : Bool} {c : TT} {tu : TS} (hc : EvT c σ H b) (M : Hp → Prop) (h1 : b = true → ∀ H1, Ex H H1 → tu { D with nx := fun σ' H' => σ' = σ ∧ M H' } σ H1) (h2 : b = false → ∀ H1, Ex H H1 → M H1) (k : ∀ H1, M H1 → tz D σ H1)
    (hmono : ∀ N N' : L2.St → Hp → Prop, (∀ σ' H', N σ' H' → N' σ' H') → ∀ H1, tu { D with nx := N } σ H1 → tu { D with nx := N' } σ H1) : tSeq (tIfS c tu tNext) tz D σ H := by
  refine hc H (Ex.refl H) _ fun H1 e1 => ?_
  cases b with
  | true =>
    rw [if_pos rfl]
    refine hmono _ _ ?_ H1 (h1 rfl H1 e1)
    rintro σ' H' ⟨rfl, m⟩
    exact k H' m
  | false =>
    rw [if_neg Bool.false_ne_true]
    exact k H1 (h2 rfl H1 e1)
end
end NQ
namespace NQ
open PySem PySem.Spec PyProof.Rows L2 Evl
/-- tuples stand -/
def TX (H H' : Hp) : Prop := ∀ a xs, H a = some (.tup xs) → H' a = some (.tup xs)
theorem TX.refl (H : Hp) : TX H H := fun _ _ h => h
theorem TX.trans {H H1 H2 : Hp} (a : TX H H1) (b : TX H1 H2) : TX H H2 := fun x o h => b x o (a x o h)
theorem TX.of {H H' : Hp} (e : Ex H H') : TX H H' := fun a xs h => e a _ h
theorem TX.updL {H : Hp} {p : Addr} {xs : List V} {o : HO} (h : H p = some (.lst xs)) : TX H (upd H p o) := fun a ys ha => by
  rw [upd_ne (ne_of ha h (by intro z; cases z))]
  exact ha
theorem TX.updD {H : Hp} {p : Addr} {kvs : List (Key × V)} {o : HO} (h : H p = some (.dK kvs)) : TX H (upd H p o) := fun a ys ha => by
  rw [upd_ne (ne_of ha h (by intro z; cases z))]
  exact ha
section
variable {K : PySem.W.Frag} {a b : Addr} {xs ys : List V}
theorem walk_enumT : Walk (IteT K a) xs.length (fun H => SqT K H a xs) (YPair (fun i => some (.int (i : Nat))) (fun i => xs[i]?)) := by
  refine ⟨fun i _ hi q => ⟨xs, xs[i], q, by simp [hi]⟩, fun _ q => ⟨xs, q, rfl⟩, fun i H v H' _ q y => ?_⟩
  obtain ⟨T, x, h1, h2, h3, h4⟩ := y
  exact ⟨T, .int (i : Nat), x, h1, h2, h3, rfl, h4 xs q⟩
theorem walk_zipT {n : Nat} (h1 : n = xs.length) (h2 : n = ys.length) : Walk (RZ.ItzT K a b) n (fun H => SqT K H a xs ∧ SqT K H b ys) (YPair (fun i => xs[i]?) (fun i => ys[i]?)) := by
  refine ⟨fun i _ hi q => ?_, fun _ q => ⟨xs, ys, q.1, q.2, Or.inl (by omega)⟩, fun i H v H' _ q y => ?_⟩
  · have h1 : i < xs.length := by omega
    have h2 : i < ys.length := by omega
    exact ⟨xs, ys, xs[i], ys[i], q.1, q.2, by simp [h1], by simp [h2]⟩
  · obtain ⟨T, x, z, h1, h2, h3, h4, h5⟩ := y
    exact ⟨T, x, z, h1, h2, h3, h4 xs q.1, h5 ys q.2⟩
theorem walk_zipM {n : Nat} (h1 : n = xs.length) (h2 : n = ys.length) : Walk (ItzM K a b) n (fun H => SqT K H a xs ∧ SqL K H b ys) (YPair (fun i => xs[i]?) (fun i => ys[i]?)) := by
  refine ⟨fun i _ hi q => ?_, fun _ q => ⟨xs, ys, q.1, q.2, by omega, by omega, by omega⟩, fun i H v H' _ q y => ?_⟩
  · have h1 : i < xs.length := by omega
    have h2 : i < ys.length := by omega
    exact ⟨xs, ys, xs[i], ys[i], q.1, q.2, by simp [h1], by simp [h2]⟩
  · obtain ⟨T, x, z, h1, h2, h3, h4, h5⟩ := y
    exact ⟨T, x, z, h1, h2, h3, h4 xs q.1, h5 ys q.2⟩
end
/-! ### what is walked, while all that is tracked stands -/
def EvI (wi : TI) (σ : L2.St) (H : Hp) (n : Nat) (Y : Nat → Hp → V → Hp → Prop) : Prop := ∀ H1, Ex H H1 → ∀ R : It → Hp → Prop, (∀ J H2 (G : Hp → Prop), Ex H1 H2 → Walk J n G Y → (∀ H3, Ex H2 H3 → G H3) → R J H2) → wi σ H1 R
section
variable {K : PySem.W.Frag} {σ : L2.St} {H H' : Hp} {ta tb te tx td ty tl : TE} {t u tt : TT} {x y z v : V} {tr : TA} {D : Ends} {tz : TS} {wi : TI} {g : TG} {n : Nat} {Y : Nat → Hp → V → Hp → Prop} {vs : List Nat}
theorem EvI.mono (e : Ex H H') (h : EvI wi σ H n Y) : EvI wi σ H' n Y := fun H1 a R q => h H1 (e.trans a) R q
theorem ei_tup {xs : List V} (h : EvQ K tl σ H xs) : EvI (iTup K tl) σ H xs.length (YAt xs) := fun H1 e R q => h H1 e _ fun p H2 e2 hp => ⟨p, rfl, ⟨xs, hp⟩, q _ H2 _ e2 walk_tup fun H3 e3 => ex_t e3 hp⟩
theorem ei_lst {xs : List V} (h : EvQL K tl σ H xs) : EvI (iList K tl) σ H xs.length (YAt xs) := fun H1 e R q => h H1 e _ fun p H2 e2 hp => ⟨p, rfl, ⟨xs, hp⟩, q _ H2 _ e2 walk_list fun H3 e3 => ex_l e3 hp⟩
theorem ei_enum {xs : List V} (h : EvQ K tl σ H xs) : EvI (iEnumT K (tCons tl tNil)) σ H xs.length (YPair (fun i => some (.int (i : Nat))) (fun i => xs[i]?)) := fun H1 e R q => h H1 e _ fun p H2 e2 hp => ⟨p, xs, rfl, hp, q _ H2 _ e2 walk_enumT fun H3 e3 => ex_t e3 hp⟩
theorem ei_zipT {xs ys : List V} (h1 : EvQ K ta σ H xs) (h2 : EvQ K tb σ H ys) (hl : xs.length = ys.length) : EvI (RZ.iZipA K (tCons ta (tCons tb tNil))) σ H xs.length (YPair (fun i => xs[i]?) (fun i => ys[i]?)) := fun H1 e R q =>
  h1 H1 e _ fun p H2 e2 hp => h2 H2 (e.trans e2) _ fun p' H3 e3 hp' => ⟨p, p', xs, ys, rfl, Or.inr ⟨ex_t e3 hp, hp', q _ H3 _ (e2.trans e3) (walk_zipT rfl hl) fun H4 e4 => ⟨ex_t (e3.trans e4) hp, ex_t e4 hp'⟩⟩⟩
theorem ei_zipL {xs ys : List V} {n : Nat} (h1 : EvQL K ta σ H xs) (h2 : EvQL K tb σ H ys) (hl : n = min xs.length ys.length) : EvI (RZ.iZipA K (tCons ta (tCons tb tNil))) σ H n (YPair (fun i => xs[i]?) (fun i => ys[i]?)) := fun H1 e R q =>
  h1 H1 e _ fun p H2 e2 hp => h2 H2 (e.trans e2) _ fun p' H3 e3 hp' => ⟨p, p', xs, ys, rfl, Or.inl ⟨ex_l e3 hp, hp', q _ H3 _ (e2.trans e3) (walk_zip hl) fun H4 e4 => ⟨ex_l (e3.trans e4) hp, ex_l e4 hp'⟩⟩⟩
theorem ei_zipM {xs ys : List V} (h1 : EvQ K ta σ H xs) (h2 : EvQL K tb σ H ys) (hl : xs.length = ys.length) : EvI (iZipM K (tCons ta (tCons tb tNil))) σ H xs.length (YPair (fun i => xs[i]?) (fun i => ys[i]?)) := fun H1 e R q =>
  h1 H1 e _ fun p H2 e2 hp => h2 H2 (e.trans e2) _ fun p' H3 e3 hp' => ⟨p, p', xs, ys, rfl, ex_t e3 hp, hp', q _ H3 _ (e2.trans e3) (walk_zipM rfl hl) fun H4 e4 => ⟨ex_t (e3.trans e4) hp, ex_l e4 hp'⟩⟩
theorem ei_range {n : Int} (h : EvA tr σ H [.int n]) (hn : 0 ≤ n ∧ n ≤ 100000) : True := trivial
/-! ### comprehensions -/
def idxs (n : Nat) (f : Nat → Bool) : List Nat := (List.range n).filter f
theorem idxs_yes {n : Nat} {f : Nat → Bool} (h : f n = true) : idxs (n + 1) f = idxs n f ++ [n] := by
  unfold idxs
  rw [List.range_succ, List.filter_append, List.filter_cons_of_pos h]
  rfl
theorem idxs_no {n : Nat} {f : Nat → Bool} (h : f n = false) : idxs (n + 1) f = idxs n f := by
  unfold idxs
  rw [List.range_succ, List.filter_append, List.filter_cons_of_neg (by rw [h]; decide), List.filter_nil, List.append_nil]
theorem idxs_all (n : Nat) : idxs n (fun _ => true) = List.range n := List.filter_eq_self.mpr fun _ _ => rfl
theorem paired_snoc {α β : Type} {F : α → β → Prop} {xs : List α} {ys : List β} {x : α} {y : β} (h : Paired F xs ys) (hy : F x y) : Paired F (xs ++ [x]) (ys ++ [y]) := by
  induction h with
  | nil => exact .cons hy .nil
  | cons h1 _ ih => exact .cons h1 ih
theorem paired_map {w : Nat → V} {is : List Nat} {ys : List V} (h : Paired (fun i y => y = w i) is ys) : ys = is.map w := by
  induction h with
  | nil => rfl
  | cons h1 _ ih => rw [List.map_cons, h1, ih]
theorem paired_len {α β : Type} {F : α → β → Prop} {xs : List α} {ys : List β} (h : Paired F xs ys) : xs.length = ys.length := by
  induction h with
  | nil => rfl
  | cons _ _ ih => rw [List.length_cons, List.length_cons, ih]
theorem paired_at {α β : Type} {F : α → β → Prop} {xs : List α} {ys : List β} (h : Paired F xs ys) : ∀ {i : Nat} {x : α} {y : β}, xs[i]? = some x → ys[i]? = some y → F x y := by
  induction h with
  | nil => intro i x y h1 _; simp at h1
  | cons h1 _ ih =>
    intro i x y e1 e2
    cases i with
    | zero =>
      cases e1
      cases e2
      exact h1
    | succ i => exact ih (by simpa using e1) (by simpa using e2)
/-- a new list whose items P tells -/
def EvG (te : TE) (σ : L2.St) (H : Hp) (is : List Nat) (P : Nat → V → Hp → Prop) : Prop := ∀ H1, Ex H H1 → ∀ Q : VK, (∀ p ys H2, H1 p = none → Ex H1 H2 → H2 p = some (.lst ys) → Paired (fun i y => P i y H2) is ys → Q (.ref p) H2) → te σ H1 Q
theorem el_lcG (h : EvI wi σ H n Y) (hn : n ≤ 40000) (f : Nat → Bool) (P : Nat → V → Hp → Prop) (hP : ∀ i v H1 H2, TX H1 H2 → P i v H1 → P i v H2)
    (hb : ∀ i x H1 H2, Ex H H1 → i < n → Y i H1 x H2 → Ex H1 H2 ∧ ∃ σ2, (∀ R : L2.St → Hp → Prop, R σ2 H2 → g x (wipe σ vs) H2 R) ∧ wipe σ2 vs = wipe σ vs ∧ EvT tt σ2 H2 (f i) ∧ (f i = true → Gv te σ2 H2 (P i))) :
    EvG (tLc wi g tt te vs) σ H (idxs n f) P := fun H0 e Q q => by
  refine h H0 e _ fun J H1 G e1 W hG => fun Dl hD => ?_
  refine lc_it W (fun i H' => ∃ ys, H1 Dl = none ∧ Ex H1 H' ∧ H' Dl = some (.lst ys) ∧ Paired (fun j y => P j y H') (idxs i f) ys) ⟨[], hD, Ex.new hD, upd_same, .nil⟩ (fun i H' _ p => ?_) (fun i x H' H2 hi p hy => ?_) fun H' p => ?_
  · obtain ⟨ys, p1, p2, p3, p4⟩ := p
    exact hG H' p2
  · obtain ⟨ys, p1, p2, p3, p4⟩ := p
    obtain ⟨e2, σ2, b2, b1, b3, b4⟩ := hb i x H' H2 ((e.trans e1).trans p2) hi hy
    refine b2 _ ⟨b1, b3 H2 (Ex.refl H2) _ fun H3 e3 => ?_⟩
    have hl : ys.length ≤ i := by
      rw [← paired_len p4]
      have := List.length_filter_le f (List.range i)
      rw [List.length_range] at this
      exact this
    cases hf : f i with
    | true =>
      rw [if_pos rfl]
      refine b4 hf H3 e3 _ fun y H4 e4 hy4 => ?_
      have e24 := (e2.trans e3).trans e4
      refine ⟨ys, e24 _ _ p3, sz_lt (by omega), ys ++ [y], p1, Ex.mut (p2.trans e24) p1, upd_same, ?_⟩
      rw [idxs_yes hf]
      have tx : TX H4 (upd H4 Dl (.lst (ys ++ [y]))) := TX.updL (e24 _ _ p3)
      exact paired_snoc (L2.Paired.mapP p4 fun j w hw => hP j w _ _ ((TX.of e24).trans tx) hw) (hP i y _ _ tx hy4)
    | false =>
      rw [if_neg (by decide)]
      refine ⟨ys, p1, p2.trans (e2.trans e3), (e2.trans e3) _ _ p3, ?_⟩
      rw [idxs_no hf]
      exact L2.Paired.mapP p4 fun j w hw => hP j w _ _ (TX.of (e2.trans e3)) hw
  · obtain ⟨ys, p1, p2, p3, p4⟩ := p
    exact q Dl ys H' (fresh_back e1 p1) (e1.trans p2) p3 p4
/-- items known -/
theorem el_lcV (w : Nat → V) (f : Nat → Bool) (h : EvI wi σ H n Y) (hn : n ≤ 40000)
    (hb : ∀ i x H1 H2, Ex H H1 → i < n → Y i H1 x H2 → Ex H1 H2 ∧ ∃ σ2, (∀ R : L2.St → Hp → Prop, R σ2 H2 → g x (wipe σ vs) H2 R) ∧ wipe σ2 vs = wipe σ vs ∧ EvT tt σ2 H2 (f i) ∧ (f i = true → Ev te σ2 H2 (w i))) :
    EvL (tLc wi g tt te vs) σ H ((idxs n f).map w) := fun H0 e Q q => by
  refine el_lcG (P := fun i v _ => v = w i) h hn f (fun _ _ _ _ _ h => h) (fun i x H1 H2 e1 hi hy => ?_) H0 e Q fun p ys H2 hp0 e2 hp hpr => ?_
  · obtain ⟨b0, σ2, b1, b2, b3, b4⟩ := hb i x H1 H2 e1 hi hy
    exact ⟨b0, σ2, b1, b2, b3, fun hf => gv_ev (b4 hf)⟩
  · rw [paired_map hpr] at hp
    exact q p H2 hp0 e2 hp
/-! ### targets -/
theorem g_tup2 {T : Addr} {i j : Nat} {R : L2.St → Hp → Prop} (h : H T = some (.tup [x, y])) (r : R ((σ.set i (some x)).set j (some y)) H) : gTup K 2 (gCons (gName i) (gCons (gName j) gNil)) (.ref T) σ H R :=
  ⟨T, [x, y], rfl, st_of h, rfl, x, [y], rfl, y, [], rfl, rfl, r⟩
theorem g_tup3 {T : Addr} {i j l : Nat} {R : L2.St → Hp → Prop} (h : H T = some (.tup [x, y, z])) (r : R (((σ.set i (some x)).set j (some y)).set l (some z)) H) : gTup K 3 (gCons (gName i) (gCons (gName j) (gCons (gName l) gNil))) (.ref T) σ H R :=
  ⟨T, [x, y, z], rfl, st_of h, rfl, x, [y, z], rfl, y, [z], rfl, z, [], rfl, rfl, r⟩
/-! ### dict comprehensions -/
theorem dc_it {J : It} {G : Hp → Prop} (W : Walk J n G Y) {tk tv : TE} {H1 : Hp} {Dd : Addr} {Qd : Hp → Prop} (Pv : Nat → Hp → Prop) (h0 : Pv 0 (upd H1 Dd (.dK []))) (hG : ∀ i H, i ≤ n → Pv i H → G H)
    (hs : ∀ i x H H', i < n → Pv i H → Y i H x H' → g x (wipe σ vs) H' fun σ2 H2 => wipe σ2 vs = wipe σ vs ∧ tt σ2 H2 fun b H3 =>
      if b = true then tk σ2 H3 fun y H4 => tv σ2 H4 fun z H5 => ∃ kvs k, y = kV k ∧ H5 Dd = some (.dK kvs) ∧ kvs.length < sizeLine ∧ Pv (i + 1) (upd H5 Dd (.dK (putK kvs k z))) else Pv (i + 1) H3) (hd : ∀ H, Pv n H → Qd H) :
    ∃ W : Nat → Nat → Hp → Prop, (∃ m, W 0 m (upd H1 Dd (.dK []))) ∧ ∀ i m H, W i m H →
      (J.stop i H ∧ Qd H) ∨ (J.go i H ∧ ∃ Nx : Hp → Prop, (∀ H', Nx H' → ∃ m', m' < m ∧ W (i + 1) m' H') ∧ ∀ x H', J.yld i H x H' → g x (wipe σ vs) H' fun σ2 H2 => wipe σ2 vs = wipe σ vs ∧ tt σ2 H2 fun b H3 =>
        if b = true then tk σ2 H3 fun y H4 => tv σ2 H4 fun z H5 => ∃ kvs k, y = kV k ∧ H5 Dd = some (.dK kvs) ∧ kvs.length < sizeLine ∧ Nx (upd H5 Dd (.dK (putK kvs k z))) else Nx H3) := by
  refine ⟨fun i m H => m = n - i ∧ i ≤ n ∧ Pv i H, ⟨n, by simp, Nat.zero_le _, h0⟩, ?_⟩
  rintro i m H ⟨rfl, hi, p⟩
  have q := hG i H hi p
  by_cases hlt : i < n
  · exact .inr ⟨W.goes i H hlt q, Pv (i + 1), fun H' p' => ⟨n - (i + 1), by omega, rfl, hlt, p'⟩, fun x H' y => hs i x H H' hlt p (W.yields i H x H' hlt q y)⟩
  · have e : i = n := by omega
    subst e
    exact .inl ⟨W.stops H q, hd H p⟩
theorem mergeK_snoc (acc kvs : List (Key × V)) (k : Key) (v : V) : mergeK acc (kvs ++ [(k, v)]) = putK (mergeK acc kvs) k v := by
  unfold mergeK
  rw [List.foldl_append]
  rfl
theorem ed_dcV {tk tv : TE} (ks : Nat → Key) (w : Nat → V) (h : EvI wi σ H n Y) (hn : n ≤ 1000)
    (hb : ∀ i x H1 H2, Ex H H1 → i < n → Y i H1 x H2 → Ex H1 H2 ∧ ∃ σ2, (∀ R : L2.St → Hp → Prop, R σ2 H2 → g x (wipe σ vs) H2 R) ∧ wipe σ2 vs = wipe σ vs ∧ Ev tk σ2 H2 (kV (ks i)) ∧ Ev tv σ2 H2 (w i)) :
    EvD (tDc wi g tYes tk tv vs) σ H (mergeK [] ((List.range n).map fun i => (ks i, w i))) := fun H0 e Q q => by
  refine h H0 e _ fun J H1 G e1 W hG => fun Dd hD => ?_
  refine dc_it W (fun i H' => H1 Dd = none ∧ Ex H1 H' ∧ H' Dd = some (.dK (mergeK [] ((List.range i).map fun i => (ks i, w i))))) ⟨hD, Ex.new hD, upd_same⟩ (fun i H' _ p => hG H' p.2.1) (fun i x H' H2 hi p hy => ?_) fun H' p => q Dd H' (fresh_back e1 p.1) (e1.trans p.2.1) p.2.2
  obtain ⟨p1, p2, p3⟩ := p
  obtain ⟨e2, σ2, b2, b1, b3, b4⟩ := hb i x H' H2 ((e.trans e1).trans p2) hi hy
  refine b2 _ ⟨b1, et_yes (σ := σ2) (H := H2) H2 (Ex.refl _) _ fun H3 e3 => ?_⟩
  rw [if_pos rfl]
  refine b3 H3 e3 _ fun H4 e4 => b4 H4 (e3.trans e4) _ fun H5 e5 => ?_
  have e25 := e2.trans (e3.trans (e4.trans e5))
  have hl : (mergeK [] ((List.range i).map fun i => (ks i, w i))).length < sizeLine := by
    have h1 := length_mergeK ((List.range i).map fun i => (ks i, w i)) []
    rw [List.length_map, List.length_range, List.length_nil, Nat.zero_add] at h1
    exact small1000 (by omega)
  refine ⟨_, ks i, rfl, e25 _ _ p3, hl, p1, Ex.mut (p2.trans e25) p1, ?_⟩
  rw [upd_same, List.range_succ, List.map_append, List.map_cons, List.map_nil, mergeK_snoc]
/-! ### all(..), d.get(k, x), new tuples -/
theorem ev_allB {bs : List Bool} {xs : List V} (ha : EvL ta σ H xs) (hx : xs = bs.map V.bl) : Ev (tCB (rAll K) (tCons ta tNil)) σ H (.bl (bs.all id)) := fun H1 e Q q => by
  refine ha H1 e _ fun p H2 _ e2 hp => ?_
  exact ⟨p, bs, rfl, sq_of (by rw [← hx]; exact hp), q H2 e2⟩
theorem ev_get2 {k : Key} {Dd : Addr} {kvs : List (Key × V)} (hd : Ev td σ H (.ref Dd)) (hk : Ev ty σ H (kV k)) (hx : Ev tx σ H z) (hD : H Dd = some (.dK kvs)) : Ev (tDGet2 td ty tx) σ H ((valV kvs k).getD z) := fun H1 e Q q => by
  refine hd H1 e _ fun H2 e2 => ⟨Dd, rfl, Or.inl ⟨kvs, Or.inl ((e.trans e2) _ _ hD)⟩, ?_⟩
  refine hk H2 (e.trans e2) _ fun H3 e3 => hx H3 ((e.trans e2).trans e3) _ fun H4 e4 => ?_
  exact ⟨valV kvs k, DGet.k ((((e.trans e2).trans e3).trans e4) _ _ hD), q H4 ((e2.trans e3).trans e4)⟩
theorem gv_tup3 {tc : TE} (ha : Ev ta σ H x) (hb : Ev tb σ H y) (hc : Ev tc σ H z) : Gv (tTup (tCons ta (tCons tb (tCons tc tNil)))) σ H (fun v H2 => ∃ p, v = .ref p ∧ H2 p = some (.tup [x, y, z])) :=
  gv_W (ew_of (eu_tup (ea_cons ha (ea_cons hb (ea_cons hc ea_nil))) (by show 3 ≤ 100000; omega)))
/-! ### slices of tuples -/
theorem cut_nat (xs : List V) (n : Nat) : cutV xs none (some (n : Int)) = xs.take n := cut_front xs n
theorem eq_slA {a : Addr} {xs : List V} {n : Nat} (h : Ev te σ H (.ref a)) (hx : SqT K H a xs) (hn : Ev tb σ H (.int (n : Int))) : EvQ K (tSl (rSlA K) te tNoPart (tPart tb)) σ H (xs.take n) := fun H1 e Q q => by
  refine h H1 e _ fun H2 e2 => ?_
  refine eo_none (σ := σ) (H := H) H2 (e.trans e2) _ fun H3 e3 => ?_
  refine eo_some hn H3 ((e.trans e2).trans e3) _ fun H4 e4 => ?_
  have e14 := (e2.trans e3).trans e4
  refine ⟨a, xs, rfl, ex_t (e.trans e14) hx, fun hw => ?_, fun hw p hp => ?_⟩
  · have h2 : min n xs.length = xs.length := by
      have := hw.2
      rw [HT.sIx_nat] at this
      exact this
    have : xs.take n = xs := List.take_of_length_le (by omega)
    rw [this] at q
    exact q a H4 e14 (ex_t (e.trans e14) hx)
  · refine q p _ (e14.trans (Ex.new hp)) ?_
    rw [← cut_nat]
    exact st_of upd_same
end
end NQ
namespace NQ
open PySem PySem.Spec PyProof.Rows L2 Evl
open KQ (Row)
/-- a def that answers True where Pre holds -/
abbrev spB (Pre : List V → Hp → Prop) : Sp := spR Pre (fun _ v _ => v = .bl true)
/-- a def that answers None where Pre holds -/
abbrev spN (Pre : List V → Hp → Prop) : Sp := spR Pre (fun _ v _ => v = .non)
/-! ### queues in the heap -/
def PairH (H : Hp) (p : Addr) (x : Str × Int) : Prop := H p = some (.tup [.str x.1, .int x.2])
def PayH (H : Hp) (q : Addr) (xs : List (Str × Int)) : Prop := ∃ ps : List Addr, H q = some (.tup (ps.map V.ref)) ∧ Paired (PairH H) ps xs
def RowH (H : Hp) (p : Addr) (r : Row Str) : Prop := ∃ q, H p = some (.tup [.str r.1, .int r.2.1, .ref q]) ∧ PayH H q r.2.2
def RowsH (H : Hp) (b : Addr) (qs : List (Row Str)) : Prop := ∃ ps : List Addr, H b = some (.tup (ps.map V.ref)) ∧ Paired (RowH H) ps qs
def QH (H : Hp) (a : Addr) (qs : List (Row Str)) : Prop := ∃ b, H a = some (.tup [.str "queues", .ref b]) ∧ RowsH H b qs
section
variable {H H' : Hp} {a b p q : Addr} {x : Str × Int} {xs : List (Str × Int)} {r : Row Str} {qs : List (Row Str)}
theorem PairH.tx (e : TX H H') (h : PairH H p x) : PairH H' p x := e _ _ h
theorem PayH.tx (e : TX H H') (h : PayH H q xs) : PayH H' q xs := by
  obtain ⟨ps, h1, h2⟩ := h
  exact ⟨ps, e _ _ h1, L2.Paired.mapP h2 fun _ _ z => z.tx e⟩
theorem RowH.tx (e : TX H H') (h : RowH H p r) : RowH H' p r := by
  obtain ⟨q, h1, h2⟩ := h
  exact ⟨q, e _ _ h1, h2.tx e⟩
theorem RowsH.tx (e : TX H H') (h : RowsH H b qs) : RowsH H' b qs := by
  obtain ⟨ps, h1, h2⟩ := h
  exact ⟨ps, e _ _ h1, L2.Paired.mapP h2 fun _ _ z => z.tx e⟩
theorem QH.tx (e : TX H H') (h : QH H a qs) : QH H' a qs := by
  obtain ⟨b, h1, h2⟩ := h
  exact ⟨b, e _ _ h1, h2.tx e⟩
theorem RowsH.at {ps : List Addr} (h : Paired (RowH H) ps qs) {i : Nat} {v : V} (hv : (ps.map V.ref)[i]? = some v) : ∃ p r, v = .ref p ∧ ps[i]? = some p ∧ qs[i]? = some r ∧ RowH H p r := by
  obtain ⟨p, hp, rfl⟩ := map_at hv
  have hl := paired_len h
  obtain ⟨r, hr⟩ := get_of (l := qs) (i := i) rfl (by
    have := (List.getElem?_eq_some_iff.mp hp).1
    omega)
  exact ⟨p, r, rfl, hp, hr, paired_at h hp hr⟩
theorem PayH.at {ps : List Addr} (h : Paired (PairH H) ps xs) {i : Nat} {v : V} (hv : (ps.map V.ref)[i]? = some v) : ∃ p x, v = .ref p ∧ ps[i]? = some p ∧ xs[i]? = some x ∧ H p = some (.tup [.str x.1, .int x.2]) := by
  obtain ⟨p, hp, rfl⟩ := map_at hv
  have hl := paired_len h
  obtain ⟨r, hr⟩ := get_of (l := xs) (i := i) rfl (by
    have := (List.getElem?_eq_some_iff.mp hp).1
    omega)
  exact ⟨p, r, rfl, hp, hr, paired_at h hp hr⟩
end
/-- a good name -/
structure GoodN (x : Str) : Prop where
  l1 : 1 ≤ x.length
  l8 : x.length ≤ 8
  nk : inV (.str x) (keptL.map V.str) = false
  le : ∀ c ∈ x.cps.toList, c ∈ lettersS.cps.toList
structure GoodP (h : Str) (ns : List Str) (xs : List (Str × Int)) : Prop where
  len : xs.length ≤ 60
  ne : ∀ x ∈ xs, x.1 ≠ h
  mem : ∀ x ∈ xs, x.1 ∈ ns
  lo : ∀ x ∈ xs, 1 ≤ x.2
  hi : ∀ x ∈ xs, x.2 ≤ 1000000
abbrev names (qs : List (Row Str)) : List Str := qs.map fun r => r.1
structure GoodQ (qs : List (Row Str)) : Prop where
  l1 : 1 ≤ qs.length
  l40 : qs.length ≤ 40
  asc : AscS (names qs)
  nm : ∀ r ∈ qs, GoodN r.1
  c0 : ∀ r ∈ qs, 0 ≤ r.2.1
  cM : ∀ r ∈ qs, r.2.1 ≤ 1000000
  pay : ∀ r ∈ qs, GoodP r.1 (names qs) r.2.2
theorem GoodQ.good {qs : List (Row Str)} (G : GoodQ qs) : KQ.Good qs := ⟨asc_nodup G.asc, fun r hr x hx => (G.pay r hr).lo x hx⟩
/-! ### is_name .. check_queues -/
def PreName : List V → Hp → Prop := fun vs _ => ∃ x, vs = [.str x] ∧ GoodN x
def PreInt : List V → Hp → Prop := fun vs _ => ∃ i lo hi, vs = [.int i, .int lo, .int hi] ∧ lo ≤ i ∧ i ≤ hi
def PrePays : List V → Hp → Prop := fun vs H => ∃ q h l ns xs, vs = [.ref q, .str h, .ref l] ∧ PayH H q xs ∧ H l = some (.lst (ns.map V.str)) ∧ GoodP h ns xs
def PreRow : List V → Hp → Prop := fun vs H => ∃ p r, vs = [.ref p] ∧ RowH H p r ∧ GoodN r.1 ∧ 0 ≤ r.2.1 ∧ r.2.1 ≤ 1000000
def PreQ : List V → Hp → Prop := fun vs H => ∃ a qs, vs = [.ref a] ∧ QH H a qs ∧ GoodQ qs
theorem all_flat : ∀ zs : List Str, (zs.map V.str).all flatV = true := fun zs => by
  rw [List.all_eq_true]
  intro v hv
  obtain ⟨z, _, rfl⟩ := List.mem_map.mp hv
  rfl
theorem inV_strs (z : Str) (zs : List Str) : inV (.str z) (zs.map V.str) = decide (z ∈ zs) := by
  unfold inV
  rw [List.any_map]
  by_cases h : z ∈ zs
  · rw [decide_eq_true h]
    exact List.any_eq_true.mpr ⟨z, h, by show (z == z) = true; simp⟩
  · rw [decide_eq_false h]
    refine List.any_eq_false.mpr fun n hn => ?_
    show ¬ (n == z) = true
    intro e
    have := eq_of_beq e
    subst this
    exact h hn
section
variable {K : PySem.W.Frag} {σ : L2.St} {H H' : Hp} {ta tb tc te tx td ty : TE} {t u : TT} {x y z v : V} {tr : TA} {D : Ends} {tz : TS}
theorem ev_eqV {x y : V} (hs : scal x y = true) (ha : Ev ta σ H x) (hb : Ev tb σ H y) : Ev (tOp rEq ta tb) σ H (.bl (decide (x = y))) := ev_op ha hb (rv_eq hs)
/-- lo <= i <= hi -/
theorem ev_chain {lo i hi : Int} (ha : Ev ta σ H (.int lo)) (hb : Ev tb σ H (.int i)) (hc : Ev tc σ H (.int hi)) (h1 : lo ≤ i) (h2 : i ≤ hi) : Ev (tChain (rI0 fun i j => .bl (decide (i ≤ j))) (rI0 fun i j => .bl (decide (i ≤ j))) ta tb tc) σ H (.bl true) := fun H1 e Q q => by
  refine ha H1 e _ fun H2 e2 => hb H2 (e.trans e2) _ fun H3 e3 => ?_
  refine ⟨lo, i, rfl, rfl, true, by show V.bl (decide (lo ≤ i)) = _; rw [decide_eq_true h1], ?_⟩
  rw [if_pos rfl]
  refine hc H3 ((e.trans e2).trans e3) _ fun H4 e4 => ⟨i, hi, rfl, rfl, ?_⟩
  show Q (V.bl (decide (i ≤ hi))) H4
  rw [decide_eq_true h2]
  exact q H4 ((e2.trans e3).trans e4)
end
section
variable {P : Program} {w : World} {K : PySem.W.Frag} {mg : Str → Option Value} {base : Heap} {f : Addr} {fd : FuncData} {aK : Addr} {tk : Tk}
theorem ok_is_name (F : Fun K "is_name" "is_name" s_is_name f fd) (T : Tx K mg aK tk) : FnOk P w K mg base CX0 1 f fd ["thing"] (spB PreName) := by
  refine F.ok sc_is_name (fun vs H Q E h => ?_) (fun cdv A outer s H vs Q E hr h => ?_)
  · obtain ⟨⟨x, rfl, _⟩, _⟩ := h
    rfl
  · obtain ⟨⟨x, rfl, g⟩, q⟩ := h
    have hu := hu_of hr
    refine ⟨_, (pss_cons (ps_if (PW.pt (pw_or (pt_not (pt_val (pe_callB (crIsi (K := K) rfl) (by rfl) T.isinstance (by decide +kernel) (pa_cons (pv 0) (pa_cons (pe_bltn (v := .ty "str") (by rfl) T.str (by decide +kernel) rfl) pa_nil))))) (pw_or (pt_cmpR op_lt (pe_callB call_len_str (by rfl) T.len (by decide +kernel) (pa_cons (pv 0) pa_nil)) pe_int (nomark _)) (pw_or (pt_cmpR op_gt (pe_callB call_len_str (by rfl) T.len (by decide +kernel) (pa_cons (pv 0) pa_nil)) pe_int (nomark _)) (pw_or1 (pt_cmpR (opInS (K := K) rfl) (pv 0) (pe_glob (by rfl) T.g_KEPT T.r_KEPT) (by rfl)))))))
        (pss_one (ps_ret pe_bl))
        pss_nil)
      (pss_one (ps_ret (pe_callB (crAll (K := K) rfl rfl) (by rfl) T.all (by decide +kernel) (pa_cons (pe_lc (own := [("sign", 1)]) rfl sc_is_name.nd (pi_str (pv 0)) (blkOk_by (own := [("sign", 1)]) (N := N_is_name) (sc := defScope s_is_name) (by decide +kernel)) (fun _ _ _ _ _ => (pg_name (i := 1) sc_is_name.nd rfl (Or.inl rfl))) (fun _ _ _ _ _ => pts_nil) (fun _ _ _ _ _ => (pe_cmpR op_in_sign (pv 1) (pe_glob (by rfl) T.g_LETTERS T.r_LETTERS) (by rfl)))) pa_nil))))), ?_⟩
    have g1 := g.l1
    have g8 := g.l8
    refine q_when (b := false) (et_is (et_or (et_not (et_B (ev_isi (ev_var rfl) ev_c (ClsV.ty _) (fun _ _ => .base (.str x)) (kit_ty (b := "str") (r := true) (by decide +kernel))))) fun _ =>
      et_or (et_test (ev_op (ev_lenS (ev_var rfl) (by omega)) ev_c rv_I0)) fun _ => et_or (et_test (ev_op (ev_lenS (ev_var rfl) (by omega)) ev_c rv_I0)) fun _ =>
      et_test (ev_op (ev_var rfl) ev_c (rv_isT (T.s_KEPT _) rfl (by decide)))) ?_) (fun z => by cases z) (fun _ H1 e1 => ?_)
    · rw [g.nk, decide_eq_false (by omega), decide_eq_false (by omega)]
      rfl
    · refine s_ret (v := .bl true) (ev_allT (el_lcS (fun _ => true) (fun _ => .bl true) (ev_var rfl) (by have : x.cps.size ≤ 8 := g8; omega) (fun _ => rfl) (fun _ _ _ _ _ => et_yes)
        (fun i c H2 e2 hc _ => ev_is (ev_op (ev_var rfl) ev_c rv_inC) ?_))) (fun H2 e2 => q _ _ (e1.trans e2) rfl)
      have hm : c ∈ x.cps.toList := by
        rw [← Array.getElem?_toList] at hc
        exact List.mem_of_getElem? hc
      rw [decide_eq_true (g.le c hm)]
theorem ok_is_integer (F : Fun K "is_integer" "is_integer" s_is_integer f fd) (T : Tx K mg aK tk) : FnOk P w K mg base CX0 1 f fd ["thing", "low", "high"] (spB PreInt) := by
  refine F.ok sc_is_integer (fun vs H Q E h => ?_) (fun cdv A outer s H vs Q E hr h => ?_)
  · obtain ⟨⟨i, lo, hi, rfl, _⟩, _⟩ := h
    rfl
  · obtain ⟨⟨i, lo, hi, rfl, h1, h2⟩, q⟩ := h
    have hu := hu_of hr
    refine ⟨_, (pss_one (ps_ret (pe_and (pe_callB (crIsi (K := K) rfl) (by rfl) T.isinstance (by decide +kernel) (pa_cons (pv 0) (pa_cons (pe_bltn (v := .ty "int") (by rfl) T.int (by decide +kernel) rfl) pa_nil))) (pe_and (pe_not (pe_callB (crIsi (K := K) rfl) (by rfl) T.isinstance (by decide +kernel) (pa_cons (pv 0) (pa_cons (pe_bltn (v := .ty "bool") (by rfl) T.bool (by decide +kernel) rfl) pa_nil)))) (pe_one (pe_chain op_le op_le (pv 1) (pv 0) (pv 2))))))), ?_⟩
    exact s_ret (v := .bl true) (ev_is (ev_andV (a := true) (b := true) (ev_isi (ev_var rfl) ev_c (ClsV.ty _) (fun _ _ => .base (.int i)) (kit_ty (b := "int") (r := true) (by decide +kernel))) fun _ =>
      ev_is (ev_andV (a := true) (b := true) (ev_is (ev_notV (a := false) (ev_isi (ev_var rfl) ev_c (ClsV.ty _) (fun _ _ => .base (.int i)) (kit_ty (b := "bool") (r := false) (by decide +kernel)))) rfl) fun _ => ev_chain (ev_var rfl) (ev_var rfl) (ev_var rfl) h1 h2) rfl) rfl) (fun H2 e2 => q _ _ e2 rfl)
theorem ok_are_payments (F : Fun K "are_payments" "are_payments" s_are_payments f fd) (T : Tx K mg aK tk) (c_is_integer : Cal P w K mg base CX0 1 "is_integer" ["thing", "low", "high"] (spB PreInt)) : FnOk P w K mg base CX0 2 f fd ["thing", "house", "names"] (spB PrePays) := by
  refine F.ok sc_are_payments (fun vs H Q E h => ?_) (fun cdv A outer s H vs Q E hr h => ?_)
  · obtain ⟨⟨q, hh, l, ns, xs, rfl, _⟩, _⟩ := h
    rfl
  · obtain ⟨⟨q, hh, l, ns, xs, rfl, hq, hl, g⟩, k⟩ := h
    have hu := hu_of hr
    refine ⟨_, (pss_cons (ps_if (PW.pt (pw_or (pt_not (pt_val (pe_callB (crIsi (K := K) rfl) (by rfl) T.isinstance (by decide +kernel) (pa_cons (pv 0) (pa_cons (pe_bltn (v := .ty "tuple") (by rfl) T.tuple (by decide +kernel) rfl) pa_nil))))) (pw_or1 (pt_cmpR op_gt (pe_callB (crLen (K := K) rfl) (by rfl) T.len (by decide +kernel) (pa_cons (pv 0) pa_nil)) (pe_glob (by rfl) T.g_MOST_PAYMENTS T.r_MOST_PAYMENTS) (nomark _)))))
        (pss_one (ps_ret pe_bl))
        pss_nil)
      (pss_cons (ps_for PassesOwn.never rfl (piTup (K := K) rfl (pv 0)) (pg_name (i := 3) sc_are_payments.nd rfl (Or.inl rfl))
        (pss_cons (ps_if (PW.pt (pw_or (pt_not (pt_val (pe_callB (crIsi (K := K) rfl) (by rfl) T.isinstance (by decide +kernel) (pa_cons (pv 3) (pa_cons (pe_bltn (v := .ty "tuple") (by rfl) T.tuple (by decide +kernel) rfl) pa_nil))))) (pw_or (pt_cmpR op_ne (pe_callB (crLen (K := K) rfl) (by rfl) T.len (by decide +kernel) (pa_cons (pv 3) pa_nil)) pe_int (nomark _)) (pw_or1 (pt_not (pt_val (pe_callB (crIsi (K := K) rfl) (by rfl) T.isinstance (by decide +kernel) (pa_cons (pe_ix (ixT (K := K) rfl) (pv 3) pe_int (fun _ _ => rfl)) (pa_cons (pe_bltn (v := .ty "str") (by rfl) T.str (by decide +kernel) rfl) pa_nil)))))))))
        (pss_one (ps_ret pe_bl))
        pss_nil)
      (pss_one (ps_if (PW.pt (pw_or (pt_cmpR op_eq (pe_ix (ixT (K := K) rfl) (pv 3) pe_int (fun _ _ => rfl)) (pv 1) (nomark _)) (pw_or (pt_cmpR (opNotInS (K := K) rfl) (pe_ix (ixT (K := K) rfl) (pv 3) pe_int (fun _ _ => rfl)) (pv 2) (by rfl)) (pw_or1 (pt_not (pt_val (pe_cl c_is_integer hr (by decide) (by rfl) (pa_cons (pe_ix (ixT (K := K) rfl) (pv 3) pe_int (fun _ _ => rfl)) (pa_cons pe_int (pa_cons (pe_glob (by rfl) T.g_MOST_CASH T.r_MOST_CASH) pa_nil))))))))))
        (pss_one (ps_ret pe_bl))
        pss_nil))))
      (pss_one (ps_ret pe_bl)))), ?_⟩
    have g60 := g.len
    obtain ⟨ps, hps, hpr⟩ := id hq
    have hlen : (ps.map V.ref).length = xs.length := by rw [List.length_map, paired_len hpr]
    refine q_when (b := false) (et_is (et_or (et_not (et_B (ev_isi (ev_var rfl) ev_c (ClsV.ty _) (fun H1 e1 => .base (.tup (e1 _ _ hps))) (kit_ty (b := "tuple") (r := true) (by decide +kernel))))) fun _ =>
      et_test (ev_op (ev_lenT (ev_var rfl) (st_of hps)) ev_c rv_I0)) (by rw [hlen, decide_eq_false (by omega)]; rfl)) (fun z => by cases z) (fun _ H1 e1 => ?_)
    refine q_forQ (eq_ev (ev_var rfl) (st_of (e1 _ _ hps))) (fun i σ' H' => ∃ y3 : Option V, σ' = [some (.ref q), some (.str hh), some (.ref l), y3]) (fun H2 _ => ⟨none, rfl⟩) (fun i x σ' H2 H' N e2 hx e3 hP kk => ?_) (fun σ' H' e2 hP => ?_)
    · obtain ⟨y3, rfl⟩ := hP
      have e := e1.trans (e2.trans e3)
      obtain ⟨p, y, rfl, _, hy, hp⟩ := PayH.at hpr hx
      have hp' := e _ _ hp
      have hm := List.mem_of_getElem? hy
      have ix0 : ∀ {H5 : Hp}, Ex H' H5 → Ev (tOp (rIxT K) (tVar 3) (tC (.int 0))) [some (.ref q), some (.str hh), some (.ref l), some (.ref p)] H5 (.str y.1) := fun e5 => ev_op (ev_var rfl) ev_c (rv_ixT (st_of (e5 _ _ hp')) (at_of (j := 0) rfl rfl))
      refine q_when (σ := [some (.ref q), some (.str hh), some (.ref l), some (.ref p)]) (b := false) (et_is (et_or (et_not (et_B (ev_isi (ev_var rfl) ev_c (ClsV.ty _) (fun H5 e5 => .base (.tup (e5 _ _ hp'))) (kit_ty (b := "tuple") (r := true) (by decide +kernel))))) fun _ =>
        et_or (et_test (ev_op (ev_lenT (ev_var rfl) (st_of hp')) ev_c (rv_ne rfl))) fun _ => et_not (et_B (ev_isi (ix0 (Ex.refl H')) ev_c (ClsV.ty _) (fun _ _ => .base (.str y.1)) (kit_ty (b := "str") (r := true) (by decide +kernel))))) rfl) (fun z => by cases z) (fun _ H5 e5 => ?_)
      refine s_when (σ := [some (.ref q), some (.str hh), some (.ref l), some (.ref p)]) (b := false) (et_is (et_or (et_test (ev_op (ix0 e5) (ev_var rfl) (rv_eq rfl))) fun _ => et_or (et_test (ev_op (ix0 e5) (ev_var rfl) (rv_niL (sq_of ((e.trans e5) _ _ hl)) rfl (all_flat ns)))) fun _ =>
        et_not (et_B (ev_callB (ea_cons (ev_op (ev_var rfl) ev_c (rv_ixT (st_of (e5 _ _ hp')) (at_of (j := 1) rfl rfl))) (ea_cons ev_c (ea_cons ev_c ea_nil))) fun _ _ => ⟨y.2, 1, 1000000, rfl, g.lo y hm, g.hi y hm⟩))) ?_) (fun z => by cases z) (fun _ H6 e6 => kk _ _ (e5.trans e6) ⟨_, rfl⟩)
      rw [inV_strs, decide_eq_true (g.mem y hm), decide_eq_false fun z => g.ne y hm (V.str.inj z)]
      rfl
    · exact s_ret ev_c fun H2 e3 => k _ _ ((e1.trans e2).trans e3) rfl
theorem ok_is_house_row (F : Fun K "is_house_row" "is_house_row" s_is_house_row f fd) (T : Tx K mg aK tk) (c_is_integer : Cal P w K mg base CX0 1 "is_integer" ["thing", "low", "high"] (spB PreInt)) (c_is_name : Cal P w K mg base CX0 1 "is_name" ["thing"] (spB PreName)) :
    FnOk P w K mg base CX0 2 f fd ["thing"] (spB PreRow) := by
  refine F.ok sc_is_house_row (fun vs H Q E h => ?_) (fun cdv A outer s H vs Q E hr h => ?_)
  · obtain ⟨⟨p, r, rfl, _⟩, _⟩ := h
    rfl
  · obtain ⟨⟨p, r, rfl, ⟨q, hp, hq⟩, gn, c0, cM⟩, k⟩ := h
    have hu := hu_of hr
    refine ⟨_, (pss_one (ps_ret (pe_and (pe_callB (crIsi (K := K) rfl) (by rfl) T.isinstance (by decide +kernel) (pa_cons (pv 0) (pa_cons (pe_bltn (v := .ty "tuple") (by rfl) T.tuple (by decide +kernel) rfl) pa_nil))) (pe_and (pe_cmpR op_eq (pe_callB (crLen (K := K) rfl) (by rfl) T.len (by decide +kernel) (pa_cons (pv 0) pa_nil)) pe_int (nomark _)) (pe_and (pe_cl c_is_name hr (by decide) (by rfl) (pa_cons (pe_ix (ixT (K := K) rfl) (pv 0) pe_int (fun _ _ => rfl)) pa_nil)) (pe_one (pe_cl c_is_integer hr (by decide) (by rfl) (pa_cons (pe_ix (ixT (K := K) rfl) (pv 0) pe_int (fun _ _ => rfl)) (pa_cons pe_int (pa_cons (pe_glob (by rfl) T.g_MOST_CASH T.r_MOST_CASH) pa_nil)))))))))), ?_⟩
    exact s_ret (v := .bl true) (ev_is (ev_andV (a := true) (b := true) (ev_isi (ev_var rfl) ev_c (ClsV.ty _) (fun H1 e1 => .base (.tup (e1 _ _ hp))) (kit_ty (b := "tuple") (r := true) (by decide +kernel))) fun _ =>
      ev_is (ev_andV (a := true) (b := true) (ev_is (ev_eqV rfl (ev_lenT (ev_var rfl) (st_of hp)) ev_c) rfl) fun _ =>
      ev_is (ev_andV (a := true) (b := true) (ev_callB (ea_cons (ev_op (ev_var rfl) ev_c (rv_ixT (st_of hp) (at_of (j := 0) rfl rfl))) ea_nil) fun _ _ => ⟨r.1, rfl, gn⟩) fun _ =>
      ev_callB (ea_cons (ev_op (ev_var rfl) ev_c (rv_ixT (st_of hp) (at_of (j := 1) rfl rfl))) (ea_cons ev_c (ea_cons ev_c ea_nil))) fun _ _ => ⟨r.2.1, 0, 1000000, rfl, c0, cM⟩) rfl) rfl) rfl) (fun H2 e2 => k _ _ e2 rfl)
end
end NQ
namespace NQ
open PySem PySem.Spec PyProof.Rows L2 Evl
open KQ (Row)
abbrev rowD : Row Str := ("", 0, [])
theorem getD_of {α : Type} {xs : List α} {i : Nat} {x d : α} (h : xs[i]? = some x) : xs.getD i d = x := by
  rw [List.getD_eq_getElem?_getD, h]
  rfl
theorem idx_map {α : Type} (d : α) (g : α → V) (xs : List α) {n : Nat} (hn : n = xs.length) : (idxs n (fun _ => true)).map (fun i => g (xs.getD i d)) = xs.map g := by
  subst hn
  rw [idxs_all, map_range_getD]
/-- a state, a list of numbers by the houses -/
def stV (qs : List (Row Str)) (f : Str → Nat) : List V := qs.map fun r => V.int (f r.1 : Nat)
theorem stV_len (qs : List (Row Str)) (f : Str → Nat) : (stV qs f).length = qs.length := List.length_map ..
theorem stV_at {qs : List (Row Str)} {f : Str → Nat} {i : Nat} {r : Row Str} (h : qs[i]? = some r) : (stV qs f)[i]? = some (.int (f r.1 : Nat)) := by
  unfold stV
  rw [List.getElem?_map, h]
  rfl
def StH (H : Hp) (s : Addr) (qs : List (Row Str)) (f : Str → Nat) : Prop := H s = some (.tup (stV qs f))
def PreSt : List V → Hp → Prop := fun vs H => ∃ a s qs f, vs = [.ref a, .ref s] ∧ QH H a qs ∧ GoodQ qs ∧ StH H s qs f ∧ KQ.Within qs f
/-- the houses' numbers -/
def numK (qs : List (Row Str)) : List (Key × V) := mergeK [] ((List.range qs.length).map fun i => ((Sum.inr (qs.getD i rowD).1 : Key), V.int (i : Nat)))
theorem numK_at {qs : List (Row Str)} (nd : (names qs).Nodup) {i : Nat} {r : Row Str} (h : qs[i]? = some r) : valV (numK qs) (Sum.inr r.1) = some (.int (i : Nat)) := by
  have hi := (List.getElem?_eq_some_iff.mp h).1
  refine valV_merge_get (i := i) ?_ ?_
  · rw [List.map_map]
    have e : ((fun x : Key × V => x.1) ∘ fun i => ((Sum.inr (qs.getD i rowD).1 : Key), V.int (i : Nat))) = fun i => (Sum.inr (qs.getD i rowD).1 : Key) := rfl
    rw [e, map_range_getD rowD (fun r : Row Str => (Sum.inr r.1 : Key)) qs]
    have e2 : qs.map (fun r => (Sum.inr r.1 : Key)) = (names qs).map (Sum.inr : Str → Key) := by rw [List.map_map]; rfl
    rw [e2]
    exact List.Pairwise.map _ (fun a b hab z => hab (Sum.inr.inj z)) nd
  · rw [List.getElem?_map, List.getElem?_range hi]
    show some ((Sum.inr (qs.getD i rowD).1 : Key), V.int (i : Nat)) = _
    rw [getD_of h]
def spNum : Sp := fun vs H Q _ => ∃ a qs, vs = [.ref a] ∧ QH H a qs ∧ GoodQ qs ∧ ∀ d H', H d = none → Ex H H' → H' d = some (.dK (numK qs)) → Q (.ref d) H'
/-- the cash of one house told otherwise -/
def recash (z : Str) (c : Int) (qs : List (Row Str)) : List (Row Str) := qs.map fun r => (r.1, (if r.1 = z then c else r.2.1), r.2.2)
def spRich : Sp := fun vs H Q _ => ∃ a d qs z c, vs = [.ref a, .ref d] ∧ QH H a qs ∧ qs.length ≤ 40 ∧ H d = some (.dK [(Sum.inr z, .int c)]) ∧ ∀ a' H', Ex H H' → QH H' a' (recash z c qs) → Q (.ref a') H'
def spEnd : Sp := fun vs H Q _ => ∃ a qs, vs = [.ref a] ∧ QH H a qs ∧ qs.length ≤ 40 ∧ ∀ s H', Ex H H' → H s = none → H' s = some (.tup (qs.map fun r => V.int (r.2.2.length : Nat))) → Q (.ref s) H'
def spWith : Sp := fun vs H Q _ => ∃ s l qs f g, vs = [.ref s, .ref l] ∧ StH H s qs f ∧ H l = some (.lst (stV qs g)) ∧ qs.length ≤ 40 ∧ ∀ H', Ex H H' → Q (.bl (qs.all fun r => decide (f r.1 ≤ g r.1))) H'
section
variable {K : PySem.W.Frag} {σ : L2.St} {H H' : Hp} {ta tb tc te tx td ty : TE} {t u : TT} {x y z v : V} {tr : TA} {D : Ends} {tz : TS}
theorem rows_of {H : Hp} {rs : List (Row Str)} {is : List Nat} {ys : List V} (h : Paired (fun i v => ∃ p, v = V.ref p ∧ RowH H p (rs.getD i rowD)) is ys) : ∃ ps : List Addr, ys = ps.map V.ref ∧ Paired (RowH H) ps (is.map fun i => rs.getD i rowD) := by
  induction h with
  | nil => exact ⟨[], rfl, .nil⟩
  | cons h1 _ ih =>
    obtain ⟨p, rfl, hr⟩ := h1
    obtain ⟨ps, e, hp⟩ := ih
    exact ⟨p :: ps, by rw [e]; rfl, .cons hr hp⟩
theorem range_rows (rs : List (Row Str)) : (idxs rs.length (fun _ => true)).map (fun i => rs.getD i rowD) = rs := by
  rw [idxs_all]
  have := map_range_getD rowD (fun r : Row Str => r) rs
  rw [List.map_id'] at this
  exact this
/-- ("queues", tuple of a list of rows) -/
theorem gv_queues {rs : List (Row Str)} {n : Nat} (hn : n = rs.length) (h : EvG te σ H (idxs n (fun _ => true)) (fun i v H => ∃ p, v = .ref p ∧ RowH H p (rs.getD i rowD))) :
    Gv (tTup (tCons (tC (.str "queues")) (tCons (tCB (rTupS K) (tCons te tNil)) tNil))) σ H (fun v H2 => ∃ a, v = .ref a ∧ QH H2 a rs) := fun H1 e Q q => by
  subst hn
  refine h H1 e _ fun p ys H2 hp0 e2 hp hpr => ?_
  refine ⟨p, ys, rfl, Or.inl ⟨sq_of hp, fun l hl => ?_⟩⟩
  refine ⟨by show 2 ≤ sizeLine; decide, fun a ha => ?_⟩
  have x1 : Ex H2 (upd H2 l (.tup ys)) := Ex.new hl
  have x2 : Ex (upd H2 l (.tup ys)) (upd (upd H2 l (.tup ys)) a (.tup [.str "queues", .ref l])) := Ex.new ha
  have e13 := (e2.trans x1).trans x2
  refine q _ _ e13 ⟨a, rfl, l, upd_same, ?_⟩
  have hl2 : (upd (upd H2 l (.tup ys)) a (.tup [.str "queues", .ref l])) l = some (.tup ys) := x2 _ _ upd_same
  obtain ⟨ps, e4, hps⟩ := rows_of hpr
  rw [range_rows] at hps
  subst e4
  have tx : TX H2 (upd (upd H2 l (.tup (ps.map V.ref))) a (.tup [.str "queues", .ref l])) := TX.of (x1.trans x2)
  exact ⟨ps, hl2, L2.Paired.mapP hps fun _ _ z => z.tx tx⟩
end
section
variable {P : Program} {w : World} {K : PySem.W.Frag} {mg : Str → Option Value} {base : Heap} {f : Addr} {fd : FuncData} {aK : Addr} {tk : Tk}
theorem ok_is_queues (F : Fun K "is_queues" "is_queues" s_is_queues f fd) (T : Tx K mg aK tk) (c_are_payments : Cal P w K mg base CX0 2 "are_payments" ["thing", "house", "names"] (spB PrePays)) (c_is_house_row : Cal P w K mg base CX0 2 "is_house_row" ["thing"] (spB PreRow)) :
    FnOk P w K mg base CX0 3 f fd ["value"] (spB PreQ) := by
  refine F.ok sc_is_queues (fun vs H Q E h => ?_) (fun cdv A outer s H vs Q E hr h => ?_)
  · obtain ⟨⟨a, qs, rfl, _⟩, _⟩ := h
    rfl
  · obtain ⟨⟨a, qs, rfl, ⟨b, ha, ps, hb, hpr⟩, g⟩, k⟩ := h
    have hu := hu_of hr
    refine ⟨_, (pss_cons (ps_if (PW.pt (pw_or (pt_not (pt_val (pe_callB (crIsi (K := K) rfl) (by rfl) T.isinstance (by decide +kernel) (pa_cons (pv 0) (pa_cons (pe_bltn (v := .ty "tuple") (by rfl) T.tuple (by decide +kernel) rfl) pa_nil))))) (pw_or (pt_cmpR op_ne (pe_callB (crLen (K := K) rfl) (by rfl) T.len (by decide +kernel) (pa_cons (pv 0) pa_nil)) pe_int (nomark _)) (pw_or (pt_not (pt_val (pe_callB (crIsi (K := K) rfl) (by rfl) T.isinstance (by decide +kernel) (pa_cons (pe_ix (ixT (K := K) rfl) (pv 0) pe_int (fun _ _ => rfl)) (pa_cons (pe_bltn (v := .ty "str") (by rfl) T.str (by decide +kernel) rfl) pa_nil))))) (pw_or1 (pt_cmpR op_ne (pe_ix (ixT (K := K) rfl) (pv 0) pe_int (fun _ _ => rfl)) pe_str (nomark _)))))))
        (pss_one (ps_ret pe_bl))
        pss_nil)
      (pss_cons (ps_set (i := 1) sc_is_queues.nd rfl (Or.inl rfl) (pe_ix (ixT (K := K) rfl) (pv 0) pe_int (fun _ _ => rfl)))
      (pss_cons (ps_if (PW.pt (pw_or (pt_not (pt_val (pe_callB (crIsi (K := K) rfl) (by rfl) T.isinstance (by decide +kernel) (pa_cons (pv 1) (pa_cons (pe_bltn (v := .ty "tuple") (by rfl) T.tuple (by decide +kernel) rfl) pa_nil))))) (pw_or1 (pt_not (pt_chain op_le op_le pe_int (pe_callB (crLen (K := K) rfl) (by rfl) T.len (by decide +kernel) (pa_cons (pv 1) pa_nil)) (pe_glob (by rfl) T.g_MOST_HOUSES T.r_MOST_HOUSES))))))
        (pss_one (ps_ret pe_bl))
        pss_nil)
      (pss_cons (ps_if (pt_not (pt_val (pe_callB (crAll (K := K) rfl rfl) (by rfl) T.all (by decide +kernel) (pa_cons (pe_lc (own := [("part", 2)]) rfl sc_is_queues.nd (piTup (K := K) rfl (pv 1)) (blkOk_by (own := [("part", 2)]) (N := N_is_queues) (sc := defScope s_is_queues) (by decide +kernel)) (fun _ _ _ _ _ => (pg_name (i := 2) sc_is_queues.nd rfl (Or.inl rfl))) (fun _ _ _ _ _ => pts_nil) (fun _ _ _ _ _ => (pe_cl c_is_house_row hr (by decide) (by rfl) (pa_cons (pv 2) pa_nil)))) pa_nil))))
        (pss_one (ps_ret pe_bl))
        pss_nil)
      (pss_cons (ps_set (i := 3) sc_is_queues.nd rfl (Or.inr rfl) (pe_lc (own := [("part", 2)]) rfl sc_is_queues.nd (piTup (K := K) rfl (pv 1)) (blkOk_by (own := [("part", 2)]) (N := N_is_queues) (sc := defScope s_is_queues) (by decide +kernel)) (fun _ _ _ _ _ => (pg_name (i := 2) sc_is_queues.nd rfl (Or.inl rfl))) (fun _ _ _ _ _ => pts_nil) (fun _ _ _ _ _ => (pe_ix (ixT (K := K) rfl) (pv 2) pe_int (fun _ _ => rfl)))))
      (pss_cons (ps_if (pt_not (pt_val (pe_callB (crAll (K := K) rfl rfl) (by rfl) T.all (by decide +kernel) (pa_cons (pe_lc (own := [("one", 4), ("other", 5)]) rfl sc_is_queues.nd (piZipL (K := K) rfl (by rfl) T.zip (pa_cons (pv 3) (pa_cons (pe_slice (slL (K := K) rfl) (pv 3) (po_some pe_int) po_none) pa_nil))) (blkOk_by (own := [("one", 4), ("other", 5)]) (N := N_is_queues) (sc := defScope s_is_queues) (by decide +kernel)) (fun _ _ _ _ _ => (pgTup (K := K) (n := 2) rfl rfl (pgs_cons (pg_name (i := 4) sc_is_queues.nd rfl (Or.inl rfl)) (pgs_cons (pg_name (i := 5) sc_is_queues.nd rfl (Or.inl rfl)) pgs_nil)))) (fun _ _ _ _ _ => pts_nil) (fun _ _ _ _ _ => (pe_cmpR op_lt_str (pv 4) (pv 5) (nomark _)))) pa_nil))))
        (pss_one (ps_ret pe_bl))
        pss_nil)
      (pss_one (ps_ret (pe_callB (crAll (K := K) rfl rfl) (by rfl) T.all (by decide +kernel) (pa_cons (pe_lc (own := [("part", 2)]) rfl sc_is_queues.nd (piTup (K := K) rfl (pv 1)) (blkOk_by (own := [("part", 2)]) (N := N_is_queues) (sc := defScope s_is_queues) (by decide +kernel)) (fun _ _ _ _ _ => (pg_name (i := 2) sc_is_queues.nd rfl (Or.inl rfl))) (fun _ _ _ _ _ => pts_nil) (fun _ _ _ _ _ => (pe_cl c_are_payments hr (by decide) (by rfl) (pa_cons (pe_ix (ixT (K := K) rfl) (pv 2) pe_int (fun _ _ => rfl)) (pa_cons (pe_ix (ixT (K := K) rfl) (pv 2) pe_int (fun _ _ => rfl)) (pa_cons (pv 3) pa_nil)))))) pa_nil)))))))))), ?_⟩
    have g1 := g.l1
    have g40 := g.l40
    have hlen : (ps.map V.ref).length = qs.length := by rw [List.length_map, paired_len hpr]
    have ix0 : Ev (tOp (rIxT K) (tVar 0) (tC (.int 0))) [some (.ref a), none, none, none, none, none] H (.str "queues") := ev_op (ev_var rfl) ev_c (rv_ixT (st_of ha) (at_of (j := 0) rfl rfl))
    refine q_when (b := false) (et_is (et_or (et_not (et_B (ev_isi (ev_var rfl) ev_c (ClsV.ty _) (fun H1 e1 => .base (.tup (e1 _ _ ha))) (kit_ty (b := "tuple") (r := true) (by decide +kernel))))) fun _ =>
      et_or (et_test (ev_op (ev_lenT (ev_var rfl) (st_of ha)) ev_c (rv_ne rfl))) fun _ => et_or (et_not (et_B (ev_isi ix0 ev_c (ClsV.ty _) (fun _ _ => .base (.str "queues")) (kit_ty (b := "str") (r := true) (by decide +kernel))))) fun _ =>
      et_test (ev_op ix0 ev_c (rv_ne rfl))) rfl) (fun z => by cases z) (fun _ H1 e1 => ?_)
    refine q_asg (ev_op (ev_var rfl) ev_c (rv_ixT (st_of (e1 _ _ ha)) (at_of (j := 1) rfl rfl))) fun H2 e2 => ?_
    have e12 := e1.trans e2
    have hb2 := e12 _ _ hb
    refine q_when (σ := [some (.ref a), some (.ref b), none, none, none, none]) (b := false) (et_is (et_or (et_not (et_B (ev_isi (ev_var rfl) ev_c (ClsV.ty _) (fun H1 e1 => .base (.tup (e1 _ _ hb2))) (kit_ty (b := "tuple") (r := true) (by decide +kernel))))) fun _ =>
      et_not (et_test (ev_chain ev_c (ev_lenT (ev_var rfl) (st_of hb2)) ev_c (by rw [hlen]; omega) (by rw [hlen]; omega)))) rfl) (fun z => by cases z) (fun _ H3 e3 => ?_)
    have e13 := e12.trans e3
    refine q_when (σ := [some (.ref a), some (.ref b), none, none, none, none]) (b := false) (et_is (et_not (et_B (ev_allT (el_lcV (fun _ => .bl true) (fun _ => true) (ei_tup (K := K) (eq_ev (ev_var rfl) (st_of (e13 _ _ hb)))) (by rw [hlen]; omega)
      fun i x H4 H5 e4 hi hy => ?_)))) rfl) (fun z => by cases z) (fun _ H4 e4 => ?_)
    · obtain ⟨rfl, hx⟩ := hy
      obtain ⟨p, r, rfl, _, hqr, hrow⟩ := RowsH.at hpr hx
      have hm := List.mem_of_getElem? hqr
      exact ⟨Ex.refl _, _, fun R h => h, rfl, et_yes, fun _ => ev_callB (ea_cons (ev_var rfl) ea_nil) fun H6 e6 => ⟨p, r, rfl, hrow.tx (TX.of (e13.trans (e4.trans e6))), g.nm r hm, g.c0 r hm, g.cM r hm⟩⟩
    have e14 := e13.trans e4
    have wk := el_lcV (te := tOp (rIxT K) (tVar 2) (tC (.int 0))) (tt := tYes) (g := gName 2) (vs := [2]) (σ := [some (.ref a), some (.ref b), none, none, none, none]) (H := H4) (fun i => V.str (qs.getD i rowD).1) (fun _ => true) (ei_tup (K := K) (eq_ev (ev_var (i := 1) rfl) (st_of (e14 _ _ hb)))) (by rw [hlen]; omega)
      fun i x H5 H6 e5 hi hy => by
        obtain ⟨rfl, hx⟩ := hy
        obtain ⟨p, r, rfl, _, hqr, q', hrow, _⟩ := RowsH.at hpr hx
        refine ⟨Ex.refl _, _, fun R h => h, rfl, et_yes, fun _ => ?_⟩
        rw [getD_of hqr]
        exact ev_op (ev_var rfl) ev_c (rv_ixT (st_of ((e14.trans e5) _ _ hrow)) (at_of (j := 0) rfl rfl))
    rw [idx_map rowD (fun r : Row Str => V.str r.1) qs hlen] at wk
    have enm : qs.map (fun r => V.str r.1) = (names qs).map V.str := by rw [List.map_map]; rfl
    rw [enm] at wk
    refine q_asgL wk fun l H5 hl0 e5 hl => ?_
    have e15 := e14.trans e5
    have nl : ((names qs).map V.str).length = qs.length := by rw [List.length_map, List.length_map]
    have wl : EvL (tSl (rSlL K) (tVar 3) (tPart (tC (.int 1))) tNoPart) [some (.ref a), some (.ref b), none, some (.ref l), none, none] H5 (cutV ((names qs).map V.str) (some 1) none) := el_sl (ev_var rfl) (eo_some ev_c) eo_none (sq_of hl)
    rw [cut_rest] at wl
    refine q_when (σ := [some (.ref a), some (.ref b), none, some (.ref l), none, none]) (b := false) (et_is (et_not (et_B (ev_allT (el_lcV (n := qs.length - 1) (fun _ => .bl true) (fun _ => true) (ei_zipL (K := K) (eql_ev (ev_var rfl) (sq_of hl)) (eql_of wl) (by rw [List.length_drop, nl]; omega)) (by omega)
      fun i x H6 H7 e6 hi hy => ?_)))) rfl) (fun z => by cases z) (fun _ H6 e6 => ?_)
    · obtain ⟨T, x, y, rfl, hT, rfl, h1, h2⟩ := hy
      have h2' : ((names qs).map V.str |>.drop 1)[i]? = some y := h2
      rw [List.getElem?_drop] at h2'
      obtain ⟨z1, hz1, rfl⟩ := map_at h1
      obtain ⟨z2, hz2, rfl⟩ := map_at h2'
      rw [Nat.add_comm] at hz2
      have hlt := asc_at g.asc hz1 hz2
      refine ⟨Ex.new hT, _, fun R h => g_tup2 (i := 4) (j := 5) upd_same h, rfl, et_yes, fun _ => ?_⟩
      exact ev_op (ev_var rfl) (ev_var rfl) fun H8 _ Q q => ⟨z1, z2, rfl, rfl, by rw [decide_eq_true hlt]; exact q H8 (Ex.refl _)⟩
    have e16 := e15.trans e6
    refine s_ret (v := .bl true) (ev_allT (el_lcV (σ := [some (.ref a), some (.ref b), none, some (.ref l), none, none]) (fun _ => .bl true) (fun _ => true) (ei_tup (K := K) (eq_ev (ev_var rfl) (st_of (e16 _ _ hb)))) (by rw [hlen]; omega)
      fun i x H7 H8 e7 hi hy => ?_)) fun H7 e7 => k _ _ (e16.trans e7) rfl
    obtain ⟨rfl, hx⟩ := hy
    obtain ⟨p, r, rfl, _, hqr, q', hrow, hpay⟩ := RowsH.at hpr hx
    have hm := List.mem_of_getElem? hqr
    have e17 := e16.trans e7
    refine ⟨Ex.refl _, _, fun R h => h, rfl, et_yes, fun _ => ?_⟩
    exact ev_callB (ea_cons (ev_op (ev_var rfl) ev_c (rv_ixT (st_of (e17 _ _ hrow)) (at_of (j := 2) rfl rfl))) (ea_cons (ev_op (ev_var rfl) ev_c (rv_ixT (st_of (e17 _ _ hrow)) (at_of (j := 0) rfl rfl))) (ea_cons (ev_var rfl) ea_nil)))
      fun H9 e9 => ⟨q', r.1, l, names qs, r.2.2, rfl, hpay.tx (TX.of (e17.trans e9)), ((e6.trans e7).trans e9) _ _ hl, g.pay r hm⟩
theorem ok_check_queues (F : Fun K "check_queues" "check_queues" s_check_queues f fd) (T : Tx K mg aK tk) (c_is_queues : Cal P w K mg base CX0 3 "is_queues" ["value"] (spB PreQ)) : FnOk P w K mg base CX0 4 f fd ["queues"] (spN PreQ) := by
  refine F.ok sc_check_queues (fun vs H Q E h => ?_) (fun cdv A outer s H vs Q E hr h => ?_)
  · obtain ⟨⟨a, qs, rfl, _⟩, _⟩ := h
    rfl
  · obtain ⟨⟨a, qs, rfl, hq, g⟩, k⟩ := h
    have hu := hu_of hr
    refine ⟨_, (pss_one (ps_if (pt_not (pt_val (pe_cl c_is_queues hr (by decide) (by rfl) (pa_cons (pv 0) pa_nil))))
        (pss_one ps_never)
        pss_nil)), ?_⟩
    exact s_when (b := false) (et_is (et_not (et_B (ev_callB (ea_cons (ev_var rfl) ea_nil) fun H1 e1 => ⟨a, qs, rfl, hq.tx (TX.of e1), g⟩))) rfl) (fun z => by cases z) fun _ H1 e1 => k _ _ e1 rfl
end
end NQ
namespace NQ
open PySem PySem.Spec PyProof.Rows L2 Evl
open KQ (Row)
section
variable {P : Program} {w : World} {K : PySem.W.Frag} {mg : Str → Option Value} {base : Heap} {f : Addr} {fd : FuncData} {aK : Addr} {tk : Tk}
/-- queues[1] -/
theorem ev_houses {σ : L2.St} {H : Hp} {a b : Addr} {te : TE} (h : Ev te σ H (.ref a)) (ha : H a = some (.tup [.str "queues", .ref b])) : Ev (tOp (rIxT K) te (tC (.int 1))) σ H (.ref b) :=
  ev_op h ev_c (rv_ixT (st_of ha) (at_of (j := 1) rfl rfl))
theorem ok_is_state_of (F : Fun K "is_state_of" "is_state_of" s_is_state_of f fd) (T : Tx K mg aK tk) (c_is_integer : Cal P w K mg base CX0 1 "is_integer" ["thing", "low", "high"] (spB PreInt)) : FnOk P w K mg base CX0 2 f fd ["queues", "thing"] (spB PreSt) := by
  refine F.ok sc_is_state_of (fun vs H Q E h => ?_) (fun cdv A outer s H vs Q E hr h => ?_)
  · obtain ⟨⟨a, s, qs, ff, rfl, _⟩, _⟩ := h
    rfl
  · obtain ⟨⟨a, s, qs, ff, rfl, ⟨b, ha, ps, hb, hpr⟩, g, hs, hw⟩, k⟩ := h
    have hu := hu_of hr
    refine ⟨_, (pss_cons (ps_set (i := 2) sc_is_state_of.nd rfl (Or.inl rfl) (pe_ix (ixT (K := K) rfl) (pv 0) pe_int (fun _ _ => rfl)))
      (pss_cons (ps_if (PW.pt (pw_or (pt_not (pt_val (pe_callB (crIsi (K := K) rfl) (by rfl) T.isinstance (by decide +kernel) (pa_cons (pv 1) (pa_cons (pe_bltn (v := .ty "tuple") (by rfl) T.tuple (by decide +kernel) rfl) pa_nil))))) (pw_or1 (pt_cmpR op_ne (pe_callB (crLen (K := K) rfl) (by rfl) T.len (by decide +kernel) (pa_cons (pv 1) pa_nil)) (pe_callB (crLen (K := K) rfl) (by rfl) T.len (by decide +kernel) (pa_cons (pv 2) pa_nil)) (nomark _)))))
        (pss_one (ps_ret pe_bl))
        pss_nil)
      (pss_one (ps_ret (pe_callB (crAll (K := K) rfl rfl) (by rfl) T.all (by decide +kernel) (pa_cons (pe_lc (own := [("count", 3), ("part", 4)]) rfl sc_is_state_of.nd (piZipL (K := K) rfl (by rfl) T.zip (pa_cons (pv 1) (pa_cons (pv 2) pa_nil))) (blkOk_by (own := [("count", 3), ("part", 4)]) (N := N_is_state_of) (sc := defScope s_is_state_of) (by decide +kernel)) (fun _ _ _ _ _ => (pgTup (K := K) (n := 2) rfl rfl (pgs_cons (pg_name (i := 3) sc_is_state_of.nd rfl (Or.inl rfl)) (pgs_cons (pg_name (i := 4) sc_is_state_of.nd rfl (Or.inl rfl)) pgs_nil)))) (fun _ _ _ _ _ => pts_nil) (fun _ _ _ _ _ => (pe_cl c_is_integer hr (by decide) (by rfl) (pa_cons (pv 3) (pa_cons pe_int (pa_cons (pe_callB (crLen (K := K) rfl) (by rfl) T.len (by decide +kernel) (pa_cons (pe_ix (ixT (K := K) rfl) (pv 4) pe_int (fun _ _ => rfl)) pa_nil)) pa_nil)))))) pa_nil)))))), ?_⟩
    have g40 := g.l40
    have hlen : (ps.map V.ref).length = qs.length := by rw [List.length_map, paired_len hpr]
    refine q_asg (ev_op (ev_var rfl) ev_c (rv_ixT (st_of ha) (at_of (j := 1) rfl rfl))) fun H1 e1 => ?_
    refine q_when (σ := [some (.ref a), some (.ref s), some (.ref b), none, none]) (b := false) (et_is (et_or (et_not (et_B (ev_isi (ev_var rfl) ev_c (ClsV.ty _) (fun H1 e2 => .base (.tup ((e1.trans e2) _ _ hs))) (kit_ty (b := "tuple") (r := true) (by decide +kernel))))) fun _ =>
      et_test (ev_op (ev_lenT (ev_var rfl) (st_of (e1 _ _ hs))) (ev_lenT (ev_var rfl) (st_of (e1 _ _ hb))) (rv_ne rfl))) (by rw [hlen, stV_len]; simp)) (fun z => by cases z) (fun _ H2 e2 => ?_)
    have e12 := e1.trans e2
    refine s_ret (v := .bl true) (ev_allT (el_lcV (σ := [some (.ref a), some (.ref s), some (.ref b), none, none]) (fun _ => .bl true) (fun _ => true) (ei_zipT (K := K) (eq_ev (ev_var rfl) (st_of (e12 _ _ hs))) (eq_ev (ev_var rfl) (st_of (e12 _ _ hb))) (by rw [hlen, stV_len])) (by rw [stV_len]; omega)
      fun i x H3 H4 e3 hi hy => ?_)) fun H3 e3 => k _ _ (e12.trans e3) rfl
    obtain ⟨U, x, y, rfl, hU, rfl, h1, h2⟩ := hy
    have h2' : (ps.map V.ref)[i]? = some y := h2
    obtain ⟨p, r, rfl, _, hqr, q', hrow, ps', hp', hpr'⟩ := RowsH.at hpr h2'
    have hm := List.mem_of_getElem? hqr
    have h1' : (stV qs ff)[i]? = some x := h1
    rw [stV_at hqr] at h1'
    cases h1'
    have eU : Ex H3 (upd H3 U (.tup [.int (ff r.1 : Nat), .ref p])) := Ex.new hU
    have e := e12.trans (e3.trans eU)
    refine ⟨eU, _, fun R h => g_tup2 (i := 3) (j := 4) upd_same h, rfl, et_yes, fun _ => ?_⟩
    refine ev_callB (ea_cons (ev_var rfl) (ea_cons ev_c (ea_cons (ev_lenT (xs := ps'.map V.ref) (ev_op (ev_var rfl) ev_c (rv_ixT (st_of (e _ _ hrow)) (at_of (j := 2) rfl rfl))) (st_of (e _ _ hp'))) ea_nil))) fun H5 _ => ⟨(ff r.1 : Nat), 0, _, rfl, by omega, ?_⟩
    rw [List.length_map, paired_len hpr']
    have := hw r hm
    omega
theorem ok_check_state (F : Fun K "check_state" "check_state" s_check_state f fd) (T : Tx K mg aK tk) (c_is_state_of : Cal P w K mg base CX0 2 "is_state_of" ["queues", "thing"] (spB PreSt)) : FnOk P w K mg base CX0 3 f fd ["queues", "state"] (spN PreSt) := by
  refine F.ok sc_check_state (fun vs H Q E h => ?_) (fun cdv A outer s H vs Q E hr h => ?_)
  · obtain ⟨⟨a, s, qs, ff, rfl, _⟩, _⟩ := h
    rfl
  · obtain ⟨⟨a, s, qs, ff, rfl, hq, g, hs, hw⟩, k⟩ := h
    have hu := hu_of hr
    refine ⟨_, (pss_one (ps_if (pt_not (pt_val (pe_cl c_is_state_of hr (by decide) (by rfl) (pa_cons (pv 0) (pa_cons (pv 1) pa_nil)))))
        (pss_one ps_never)
        pss_nil)), ?_⟩
    exact s_when (b := false) (et_is (et_not (et_B (ev_callB (ea_cons (ev_var rfl) (ea_cons (ev_var rfl) ea_nil)) fun H1 e1 => ⟨a, s, qs, ff, rfl, hq.tx (TX.of e1), g, e1 _ _ hs, hw⟩))) rfl) (fun z => by cases z) fun _ H1 e1 => k _ _ e1 rfl
theorem ok_number_of (F : Fun K "number_of" "number_of" s_number_of f fd) (T : Tx K mg aK tk) : FnOk P w K mg base CX0 1 f fd ["queues"] spNum := by
  refine F.ok sc_number_of (fun vs H Q E h => ?_) (fun cdv A outer s H vs Q E hr h => ?_)
  · obtain ⟨a, qs, rfl, _⟩ := h
    rfl
  · obtain ⟨a, qs, rfl, ⟨b, ha, ps, hb, hpr⟩, g, k⟩ := h
    have hu := hu_of hr
    refine ⟨_, (pss_one (ps_ret (pe_dc (own := [("at", 1), ("part", 2)]) rfl sc_number_of.nd (piEnum (K := K) rfl (by rfl) T.enumerate (pa_cons (pe_ix (ixT (K := K) rfl) (pv 0) pe_int (fun _ _ => rfl)) pa_nil)) (blkOk_by (own := [("at", 1), ("part", 2)]) (N := N_number_of) (sc := defScope s_number_of) (by decide +kernel)) (fun _ _ _ _ _ => (pgTup (K := K) (n := 2) rfl rfl (pgs_cons (pg_name (i := 1) sc_number_of.nd rfl (Or.inl rfl)) (pgs_cons (pg_name (i := 2) sc_number_of.nd rfl (Or.inl rfl)) pgs_nil)))) (fun _ _ _ _ _ => pts_nil) (fun _ _ _ _ _ => (pe_ix (ixT (K := K) rfl) (pv 2) pe_int (fun _ _ => rfl))) (fun _ _ _ _ _ => (pv 1))))), ?_⟩
    have g40 := g.l40
    have hlen : (ps.map V.ref).length = qs.length := by rw [List.length_map, paired_len hpr]
    have wk := ed_dcV (g := gTup K 2 (gCons (gName 1) (gCons (gName 2) gNil))) (vs := [1, 2]) (tk := tOp (rIxT K) (tVar 2) (tC (.int 0))) (tv := tVar 1) (σ := [some (.ref a), none, none]) (H := H) (fun i => (Sum.inr (qs.getD i rowD).1 : Key)) (fun i => V.int (i : Nat))
      (ei_enum (K := K) (eq_ev (ev_houses (K := K) (ev_var (i := 0) rfl) ha) (st_of hb))) (by rw [hlen]; omega) fun i x H1 H2 e1 hi hy => by
        obtain ⟨U, x, y, rfl, hU, rfl, h1, h2⟩ := hy
        have h2' : (ps.map V.ref)[i]? = some y := h2
        obtain ⟨p, r, rfl, _, hqr, q', hrow, _⟩ := RowsH.at hpr h2'
        have h1' : some (V.int (i : Nat)) = some x := h1
        cases h1'
        refine ⟨Ex.new hU, _, fun R h => g_tup2 (i := 1) (j := 2) upd_same h, rfl, ?_, ev_var rfl⟩
        rw [getD_of hqr]
        exact ev_op (ev_var rfl) ev_c (rv_ixT (st_of ((e1.trans (Ex.new hU)) _ _ hrow)) (at_of (j := 0) rfl rfl))
    rw [hlen] at wk
    exact wk H (Ex.refl H) _ fun d H1 hd e1 hd1 => k d H1 hd e1 hd1
theorem ok_rich (F : Fun K "rich" "rich" s_rich f fd) (T : Tx K mg aK tk) : FnOk P w K mg base CX0 1 f fd ["queues", "cash"] spRich := by
  refine F.ok sc_rich (fun vs H Q E h => ?_) (fun cdv A outer s H vs Q E hr h => ?_)
  · obtain ⟨a, d, qs, z, c, rfl, _⟩ := h
    rfl
  · obtain ⟨a, d, qs, z, c, rfl, ⟨b, ha, ps, hb, hpr⟩, g40, hd, k⟩ := h
    have hu := hu_of hr
    refine ⟨_, (pss_one (ps_ret (pe_tup (pa_cons pe_str (pa_cons (pe_callTy (crTup (K := K) rfl) (by rfl) T.tuple (by decide +kernel) (pa_cons (pe_lc (own := [("name", 2), ("own", 3), ("payments", 4)]) rfl sc_rich.nd (piTup (K := K) rfl (pe_ix (ixT (K := K) rfl) (pv 0) pe_int (fun _ _ => rfl))) (blkOk_by (own := [("name", 2), ("own", 3), ("payments", 4)]) (N := N_rich) (sc := defScope s_rich) (by decide +kernel)) (fun _ _ _ _ _ => (pgTup (K := K) (n := 3) rfl rfl (pgs_cons (pg_name (i := 2) sc_rich.nd rfl (Or.inl rfl)) (pgs_cons (pg_name (i := 3) sc_rich.nd rfl (Or.inl rfl)) (pgs_cons (pg_name (i := 4) sc_rich.nd rfl (Or.inl rfl)) pgs_nil))))) (fun _ _ _ _ _ => pts_nil) (fun _ _ _ _ _ => (pe_tup (pa_cons (pv 2) (pa_cons (pe_dget2 hu (pv 1) (pv 2) (pv 3) ⟨rfl, rfl, rfl, rfl⟩) (pa_cons (pv 4) pa_nil)))))) pa_nil)) pa_nil))))), ?_⟩
    have hlen : (ps.map V.ref).length = qs.length := by rw [List.length_map, paired_len hpr]
    have hl2 : (recash z c qs).length = qs.length := List.length_map ..
    refine s_retG (gv_queues (K := K) (rs := recash z c qs) (n := (ps.map V.ref).length) (by rw [hl2, hlen]) (el_lcG (ei_tup (K := K) (eq_ev (ev_houses (K := K) (ev_var (i := 0) rfl) ha) (st_of hb))) (by rw [hlen]; omega) (fun _ => true) _
      (fun i v H1 H2 e ⟨p, hv, hp⟩ => ⟨p, hv, hp.tx e⟩) fun i x H1 H2 e1 hi hy => ?_)) fun v H1 e1 ⟨a', hv, ha'⟩ => by
        subst hv
        exact k a' H1 e1 ha'
    obtain ⟨rfl, hx⟩ := hy
    obtain ⟨p, r, rfl, _, hqr, q', hrow, hpay⟩ := RowsH.at hpr hx
    refine ⟨Ex.refl _, _, fun R h => g_tup3 (i := 2) (j := 3) (l := 4) (e1 _ _ hrow) h, rfl, et_yes, fun _ => ?_⟩
    have er : (recash z c qs).getD i rowD = (r.1, (if r.1 = z then c else r.2.1), r.2.2) := getD_of (by unfold recash; rw [List.getElem?_map, hqr]; rfl)
    have ec : (valV [((Sum.inr z : Key), V.int c)] (Sum.inr r.1)).getD (.int r.2.1) = .int (if r.1 = z then c else r.2.1) := by
      by_cases h : r.1 = z
      · rw [h, valV_pos rfl, if_pos rfl]
        rfl
      · rw [valV_neg (fun e => h (Sum.inr.inj e).symm), if_neg h]
        rfl
    have key := ev_get2 (k := Sum.inr r.1) (z := .int r.2.1) (σ := [some (.ref a), some (.ref d), some (.str r.1), some (.int r.2.1), some (.ref q')]) (H := H2) (td := tVar 1) (ty := tVar 2) (tx := tVar 3) (ev_var rfl) (ev_var rfl) (ev_var rfl) (e1 _ _ hd)
    rw [ec] at key
    refine (gv_tup3 (ev_var rfl) key (ev_var rfl)).imp fun v H3 e3 ⟨p2, hv, hp2⟩ => ⟨p2, hv, q', ?_, ?_⟩
    · rw [er]
      exact hp2
    · rw [er]
      exact hpay.tx (TX.of (e1.trans e3))
theorem ok_end_of_all (F : Fun K "end_of_all" "end_of_all" s_end_of_all f fd) (T : Tx K mg aK tk) : FnOk P w K mg base CX0 1 f fd ["queues"] spEnd := by
  refine F.ok sc_end_of_all (fun vs H Q E h => ?_) (fun cdv A outer s H vs Q E hr h => ?_)
  · obtain ⟨a, qs, rfl, _⟩ := h
    rfl
  · obtain ⟨a, qs, rfl, ⟨b, ha, ps, hb, hpr⟩, g40, k⟩ := h
    have hu := hu_of hr
    refine ⟨_, (pss_one (ps_ret (pe_callTy (crTup (K := K) rfl) (by rfl) T.tuple (by decide +kernel) (pa_cons (pe_lc (own := [("part", 1)]) rfl sc_end_of_all.nd (piTup (K := K) rfl (pe_ix (ixT (K := K) rfl) (pv 0) pe_int (fun _ _ => rfl))) (blkOk_by (own := [("part", 1)]) (N := N_end_of_all) (sc := defScope s_end_of_all) (by decide +kernel)) (fun _ _ _ _ _ => (pg_name (i := 1) sc_end_of_all.nd rfl (Or.inl rfl))) (fun _ _ _ _ _ => pts_nil) (fun _ _ _ _ _ => (pe_callB (crLen (K := K) rfl) (by rfl) T.len (by decide +kernel) (pa_cons (pe_ix (ixT (K := K) rfl) (pv 1) pe_int (fun _ _ => rfl)) pa_nil)))) pa_nil)))), ?_⟩
    have hlen : (ps.map V.ref).length = qs.length := by rw [List.length_map, paired_len hpr]
    have wk := el_lcV (te := tCB (rLenS K) (tCons (tOp (rIxT K) (tVar 1) (tC (.int 2))) tNil)) (tt := tYes) (g := gName 1) (vs := [1]) (σ := [some (.ref a), none]) (H := H) (fun i => V.int ((qs.getD i rowD).2.2.length : Nat)) (fun _ => true) (ei_tup (K := K) (eq_ev (ev_houses (K := K) (ev_var (i := 0) rfl) ha) (st_of hb))) (by rw [hlen]; omega)
      fun i x H5 H6 e5 hi hy => by
        obtain ⟨rfl, hx⟩ := hy
        obtain ⟨p, r, rfl, _, hqr, q', hrow, ps', hp', hpr'⟩ := RowsH.at hpr hx
        refine ⟨Ex.refl _, _, fun R h => h, rfl, et_yes, fun _ => ?_⟩
        rw [getD_of hqr, ← paired_len hpr', ← List.length_map (as := ps') (f := V.ref)]
        exact ev_lenT (ev_op (ev_var rfl) ev_c (rv_ixT (st_of (e5 _ _ hrow)) (at_of (j := 2) rfl rfl))) (st_of (e5 _ _ hp'))
    rw [idx_map rowD (fun r : Row Str => V.int (r.2.2.length : Nat)) qs hlen] at wk
    exact s_retU (eu_tupOf (K := K) wk) fun s H1 hs0 e1 hs => k s H1 e1 hs0 hs
theorem all_range_getD {α : Type} (d : α) (p : α → Bool) (xs : List α) : ((List.range xs.length).map fun i => p (xs.getD i d)).all id = xs.all p := by
  rw [map_range_getD, List.all_map]
  rfl
theorem ok_is_within (F : Fun K "is_within" "is_within" s_is_within f fd) (T : Tx K mg aK tk) : FnOk P w K mg base CX0 1 f fd ["one", "other"] spWith := by
  refine F.ok sc_is_within (fun vs H Q E h => ?_) (fun cdv A outer s H vs Q E hr h => ?_)
  · obtain ⟨s, l, qs, ff, gg, rfl, _⟩ := h
    rfl
  · obtain ⟨s, l, qs, ff, gg, rfl, hs, hl, g40, k⟩ := h
    have hu := hu_of hr
    refine ⟨_, (pss_one (ps_ret (pe_callB (crAll (K := K) rfl rfl) (by rfl) T.all (by decide +kernel) (pa_cons (pe_lc (own := [("first", 2), ("second", 3)]) rfl sc_is_within.nd (piZipM (K := K) rfl (by rfl) T.zip (pa_cons (pv 0) (pa_cons (pv 1) pa_nil))) (blkOk_by (own := [("first", 2), ("second", 3)]) (N := N_is_within) (sc := defScope s_is_within) (by decide +kernel)) (fun _ _ _ _ _ => (pgTup (K := K) (n := 2) rfl rfl (pgs_cons (pg_name (i := 2) sc_is_within.nd rfl (Or.inl rfl)) (pgs_cons (pg_name (i := 3) sc_is_within.nd rfl (Or.inl rfl)) pgs_nil)))) (fun _ _ _ _ _ => pts_nil) (fun _ _ _ _ _ => (pe_cmpR op_le (pv 2) (pv 3) (nomark _)))) pa_nil)))), ?_⟩
    have wk := el_lcV (te := tOp (rI0 fun i j => .bl (decide (i ≤ j))) (tVar 2) (tVar 3)) (tt := tYes) (g := gTup K 2 (gCons (gName 2) (gCons (gName 3) gNil))) (vs := [2, 3]) (σ := [some (.ref s), some (.ref l), none, none]) (H := H)
      (fun i => V.bl (decide (ff (qs.getD i rowD).1 ≤ gg (qs.getD i rowD).1))) (fun _ => true) (ei_zipM (K := K) (eq_ev (ev_var (i := 0) rfl) (st_of hs)) (eql_ev (ev_var (i := 1) rfl) (sq_of hl)) (by rw [stV_len, stV_len])) (by rw [stV_len]; omega)
      fun i x H3 H4 e3 hi hy => by
        obtain ⟨U, x, y, rfl, hU, rfl, h1, h2⟩ := hy
        rw [stV_len] at hi
        obtain ⟨r, hqr⟩ := get_of (l := qs) (i := i) rfl hi
        have h1' : (stV qs ff)[i]? = some x := h1
        have h2' : (stV qs gg)[i]? = some y := h2
        rw [stV_at hqr] at h1' h2'
        cases h1'
        cases h2'
        refine ⟨Ex.new hU, _, fun R h => g_tup2 (i := 2) (j := 3) upd_same h, rfl, et_yes, fun _ => ?_⟩
        rw [getD_of hqr]
        refine ev_is (ev_leV (i := (ff r.1 : Nat)) (j := (gg r.1 : Nat)) (ev_var rfl) (ev_var rfl)) ?_
        by_cases h : ff r.1 ≤ gg r.1
        · rw [decide_eq_true h, decide_eq_true (by omega)]
        · rw [decide_eq_false h, decide_eq_false (by omega)]
    rw [stV_len, idx_map rowD (fun r : Row Str => V.bl (decide (ff r.1 ≤ gg r.1))) qs rfl] at wk
    refine s_ret (ev_allB (bs := qs.map fun r => decide (ff r.1 ≤ gg r.1)) wk (by rw [List.map_map]; rfl)) fun H1 e1 => ?_
    rw [List.all_map]
    exact k H1 e1
end
end NQ
namespace NQ
open PySem PySem.Spec PyProof.Rows L2 Evl
open KQ (Row held bump drop bump_same bump_ne drop_same drop_ne)
/-- all but two lists (or a dict and a list) stands -/
def ExD (a l : Addr) (H H' : Hp) : Prop := ∀ b o, H b = some o → b ≠ a → b ≠ l → H' b = some o
theorem ExD.refl {a l : Addr} (H : Hp) : ExD a l H H := fun _ _ h _ _ => h
theorem ExD.trans {a l : Addr} {H H1 H2 : Hp} (x : ExD a l H H1) (y : ExD a l H1 H2) : ExD a l H H2 := fun b o h n1 n2 => y b o (x b o h n1 n2) n1 n2
theorem ExD.of {a l : Addr} {H H' : Hp} (e : Ex H H') : ExD a l H H' := fun b o h _ _ => e b o h
theorem ExD.updA {a l : Addr} {H : Hp} {o : HO} : ExD a l H (upd H a o) := fun b u h n1 _ => by rw [upd_ne n1]; exact h
theorem ExD.updL {a l : Addr} {H : Hp} {o : HO} : ExD a l H (upd H l o) := fun b u h _ n2 => by rw [upd_ne n2]; exact h
theorem ExD.tx {a l : Addr} {H H' : Hp} {xs ys : List V} (e : ExD a l H H') (ha : H a = some (.lst xs)) (hl : H l = some (.lst ys)) : TX H H' := fun b zs h => e b _ h (ne_of h ha (by intro z; cases z)) (ne_of h hl (by intro z; cases z))
theorem ExD.ex {a l : Addr} {H H1 H2 : Hp} (e1 : Ex H H1) (e : ExD a l H1 H2) (ha : H a = none) (hl : H l = none) : Ex H H2 := fun b o h => e b o (e1 b o h) (ne_of_none h ha) (ne_of_none h hl)
/-- the balances, a list by the houses -/
def baV (qs : List (Row Str)) (c : Str → Int) (f : Str → Nat) : List V := qs.map fun r => V.int (held qs c f r)
theorem baV_len (qs : List (Row Str)) (c : Str → Int) (f : Str → Nat) : (baV qs c f).length = qs.length := List.length_map ..
theorem baV_at {qs : List (Row Str)} {c : Str → Int} {f : Str → Nat} {i : Nat} {r : Row Str} (h : qs[i]? = some r) : (baV qs c f)[i]? = some (.int (held qs c f r)) := by
  unfold baV
  rw [List.getElem?_map, h]
  rfl
theorem map_set {qs : List (Row Str)} (nd : (names qs).Nodup) {i : Nat} {r : Row Str} (h : qs[i]? = some r) {g g' : Row Str → V} {v : V} (h1 : g' r = v) (h2 : ∀ q ∈ qs, q.1 ≠ r.1 → g' q = g q) : (qs.map g).set i v = qs.map g' := by
  have hi := (List.getElem?_eq_some_iff.mp h).1
  refine List.ext_getElem? fun j => ?_
  rw [List.getElem?_set, List.getElem?_map, List.getElem?_map]
  by_cases e : i = j
  · subst e
    rw [if_pos rfl, if_pos (by rw [List.length_map]; exact hi), h]
    show some v = some (g' r)
    rw [h1]
  · rw [if_neg e]
    cases hq : qs[j]? with
    | none => rfl
    | some q =>
      show some (g q) = some (g' q)
      rw [h2 q (List.mem_of_getElem? hq) fun z => e ?_]
      have hj := (List.getElem?_eq_some_iff.mp hq).1
      have a1 : (names qs)[i]? = some r.1 := by rw [List.getElem?_map, h]; rfl
      have a2 : (names qs)[j]? = some q.1 := by rw [List.getElem?_map, hq]; rfl
      rw [z, ← a1] at a2
      exact ((List.getElem?_inj (by rw [List.length_map]; exact hj) nd).mp a2).symm
theorem set_bump {qs : List (Row Str)} (nd : (names qs).Nodup) {i : Nat} {r : Row Str} (h : qs[i]? = some r) (f : Str → Nat) : (stV qs f).set i (.int ((f r.1 : Nat) + 1)) = stV qs (bump f r.1) :=
  map_set nd h (by rw [bump_same]; rfl) fun q _ hq => by rw [bump_ne hq]
section
variable {K : PySem.W.Frag} {σ : L2.St} {H H' : Hp} {ta tb tc te tx td ty tl : TE} {t u : TT} {x y z v : V} {tr : TA} {D : Ends} {tz : TS}
/-- o[j] op= e, o a list -/
theorem s_augL {l : Addr} {xs : List V} {j : Nat} {a b : Int} {fn : Int → Int → Int} (hl : H l = some (.lst xs)) (ho : Ev ta σ H (.ref l)) (hi : Ev tb σ H (.int (j : Int))) (hx : xs[j]? = some (.int a)) (h : Ev te σ H (.int b))
    (k : ∀ H1, Ex H H1 → D.nx σ (upd H1 l (.lst (xs.set j (.int (fn a b)))))) : tAugS ta tb te (rGetL K) (ipI fn) rSetL D σ H := by
  refine ho H (Ex.refl H) _ fun H1 e1 => hi H1 e1 _ fun H2 e2 => ?_
  refine ⟨l, xs, j, .int a, rfl, rfl, sq_of ((e1.trans e2) _ _ hl), hx, ?_⟩
  refine h H2 (e1.trans e2) _ fun H3 e3 => ⟨a, b, rfl, rfl, ?_⟩
  exact ⟨l, xs, j, j, rfl, rfl, ((e1.trans e2).trans e3) _ _ hl, ixN_nat (List.getElem?_eq_some_iff.mp hx).1, k H3 ((e1.trans e2).trans e3)⟩
theorem q_augL {l : Addr} {xs : List V} {j : Nat} {a b : Int} {fn : Int → Int → Int} (hl : H l = some (.lst xs)) (ho : Ev ta σ H (.ref l)) (hi : Ev tb σ H (.int (j : Int))) (hx : xs[j]? = some (.int a)) (h : Ev te σ H (.int b))
    (k : ∀ H1, Ex H H1 → tz D σ (upd H1 l (.lst (xs.set j (.int (fn a b)))))) : tSeq (tAugS ta tb te (rGetL K) (ipI fn) rSetL) tz D σ H := s_augL (D := { D with nx := tz D }) hl ho hi hx h k
/-- for i, x in enumerate(a tuple), whatever the body changes -/
theorem q_forE {a : Addr} {xs : List V} {i j : Nat} {tb : TS} (h : Ev tl σ H (.ref a)) (hx : SqT K H a xs) (Pv : Nat → L2.St → Hp → Prop) (h0 : ∀ H1, Ex H H1 → Pv 0 σ H1) (hl : ∀ k σ' H', Pv k σ' H' → SqT K H' a xs)
    (hs : ∀ (k : Nat) (x : V) (σ' : L2.St) (H' H2 : Hp) (N : L2.St → Hp → Prop), xs[k]? = some x → Pv k σ' H' → Ex H' H2 → (∀ σ3 H3, Pv (k + 1) σ3 H3 → N σ3 H3) → tb { D with nx := N, ct := N, bk := tz D } ((σ'.set i (some (.int (k : Nat)))).set j (some x)) H2)
    (hd : ∀ σ' H', Pv xs.length σ' H' → tz D σ' H') : tSeq (tFor (iEnumT K (tCons tl tNil)) (gTup K 2 (gCons (gName i) (gCons (gName j) gNil))) tb) tz D σ H := by
  refine h H (Ex.refl H) _ fun H1 e1 => ⟨a, xs, rfl, ex_t e1 hx, ?_⟩
  refine for_it walk_enumT (D := { D with nx := tz D }) Pv (h0 H1 e1) (fun k σ' H' _ p => hl k σ' H' p) (fun k x σ' H' H2 hk p hy => ?_) hd
  obtain ⟨U, y, z, rfl, hU, rfl, h1, h2⟩ := hy
  have h1' : some (V.int (k : Nat)) = some y := h1
  cases h1'
  exact g_tup2 upd_same (hs k z σ' H' _ _ h2 p (Ex.new hU) fun _ _ h => h)
end
/-! ### pays_next, paying -/
structure Sts (H : Hp) (a s b : Addr) (qs : List (Row Str)) (c : Str → Int) (f : Str → Nat) : Prop where
  q : QH H a qs
  l40 : qs.length ≤ 40
  nd : (names qs).Nodup
  st : H s = some (.lst (stV qs f))
  ba : H b = some (.lst (baV qs c f))
  ne : s ≠ b
theorem Sts.mono {H H' : Hp} {a s b : Addr} {qs : List (Row Str)} {c : Str → Int} {f : Str → Nat} (h : Sts H a s b qs c f) (e : Ex H H') : Sts H' a s b qs c f := ⟨h.q.tx (TX.of e), h.l40, h.nd, e _ _ h.st, e _ _ h.ba, h.ne⟩
def spPay : Sp := fun vs H Q _ => ∃ a d s b qs c f i r x, vs = [.ref a, .ref d, .ref s, .ref b, .int (i : Nat)] ∧ Sts H a s b qs c f ∧ H d = some (.dK (numK qs)) ∧ qs[i]? = some r ∧ r.2.2[f r.1]? = some x ∧ x.1 ∈ names qs ∧
  ∀ H', ExD s b H H' → Sts H' a s b qs c (bump f r.1) → Q .non H'
section
variable {P : Program} {w : World} {K : PySem.W.Frag} {mg : Str → Option Value} {base : Heap} {f : Addr} {fd : FuncData} {aK : Addr} {tk : Tk}
theorem ok_pays_next (F : Fun K "pays_next" "pays_next" s_pays_next f fd) (T : Tx K mg aK tk) : FnOk P w K mg base CX0 1 f fd ["queues", "numbers", "state", "balances", "at"] spPay := by
  refine F.ok sc_pays_next (fun vs H Q E h => ?_) (fun cdv A outer s H vs Q E hr h => ?_)
  · obtain ⟨a, d, s, b, qs, c, ff, i, r, x, rfl, _⟩ := h
    rfl
  · obtain ⟨a, d, s, b, qs, c, ff, i, r, x, rfl, S, hd, hqr, hx, hxm, k⟩ := h
    have hu := hu_of hr
    refine ⟨_, (pss_cons (ps_asg (pe_ix (ixT (K := K) rfl) (pe_ix (ixT (K := K) rfl) (pe_ix (ixT (K := K) rfl) (pe_ix (ixT (K := K) rfl) (pv 0) pe_int (fun _ _ => rfl)) (pv 4) (fun _ _ => rfl)) pe_int (fun _ _ => rfl)) (pe_ix (ixL (K := K) rfl) (pv 2) (pv 4) (fun _ _ => rfl)) (fun _ _ => rfl)) (pgTup (K := K) (n := 2) rfl rfl (pgs_cons (pg_name (i := 5) sc_pays_next.nd rfl (Or.inl rfl)) (pgs_cons (pg_name (i := 6) sc_pays_next.nd rfl (Or.inl rfl)) pgs_nil))))
      (pss_cons (ps_augS (pv 2) (pv 4) (getL (K := K) rfl) pe_int ip_add set_list)
      (pss_cons (ps_augS (pv 3) (pv 4) (getL (K := K) rfl) (pv 6) ip_sub set_list)
      (pss_one (ps_augS (pv 3) (pe_dget hu (pv 1) (pv 5) (fun _ _ => rfl)) (getL (K := K) rfl) (pv 6) ip_add set_list))))), ?_⟩
    obtain ⟨hb0, ha, ps, hb, hpr⟩ := id S.q
    obtain ⟨p, hp⟩ := get_of (l := ps) (i := i) rfl (by rw [paired_len hpr]; exact (List.getElem?_eq_some_iff.mp hqr).1)
    obtain ⟨q', hrow, ps', hp', hpr'⟩ := paired_at hpr hp hqr
    obtain ⟨px, hpx⟩ := get_of (l := ps') (i := ff r.1) rfl (by rw [paired_len hpr']; exact (List.getElem?_eq_some_iff.mp hx).1)
    have hxp : H px = some (.tup [.str x.1, .int x.2]) := paired_at hpr' hpx hx
    obtain ⟨j, hj, ej⟩ := List.mem_iff_getElem.mp hxm
    rw [List.length_map] at hj
    obtain ⟨rj, hqj⟩ := get_of (l := qs) (i := j) rfl hj
    have ejn : rj.1 = x.1 := by
      rw [← ej, List.getElem_map]
      rw [List.getElem?_eq_getElem hj] at hqj
      rw [Option.some.inj hqj]
    -- creditor, amount = queues[1][at][2][state[at]]
    refine q_asgT2 (K := K) (p := px) (x := .str x.1) (y := .int x.2) (ev_op (ev_op (ev_op (ev_houses (K := K) (ev_var rfl) ha) (ev_var rfl) (rv_ixT (st_of hb) (at_of (j := i) rfl (by rw [List.getElem?_map, hp]; rfl)))) ev_c (rv_ixT (st_of hrow) (at_of (j := 2) rfl rfl)))
      (ev_op (ev_var rfl) (ev_var rfl) (rv_ixL (sq_of S.st) (at_of (j := i) rfl (stV_at hqr)))) (rv_ixT (st_of hp') (at_of (j := ff r.1) rfl (by rw [List.getElem?_map, hpx]; rfl)))) hxp fun H1 e1 => ?_
    -- state[at] += 1
    refine q_augL (σ := [some (.ref a), some (.ref d), some (.ref s), some (.ref b), some (.int (i : Nat)), some (.str x.1), some (.int x.2)]) (e1 _ _ S.st) (ev_var rfl) (ev_var rfl) (stV_at hqr) ev_c fun H2 e2 => ?_
    rw [set_bump S.nd hqr]
    have e12 := e1.trans e2
    have hb2 : (upd H2 s (.lst (stV qs (bump ff r.1)))) b = some (.lst (baV qs c ff)) := by
      rw [upd_ne S.ne.symm]
      exact e12 _ _ S.ba
    -- balances[at] -= amount
    refine q_augL (σ := [some (.ref a), some (.ref d), some (.ref s), some (.ref b), some (.int (i : Nat)), some (.str x.1), some (.int x.2)]) hb2 (ev_var rfl) (ev_var rfl) (baV_at hqr) (ev_var rfl) fun H3 e3 => ?_
    have es1 : (baV qs c ff).set i (.int (held qs c ff r - x.2)) = qs.map fun q => V.int (held qs c ff q - if q.1 = r.1 then x.2 else 0) :=
      map_set S.nd hqr (by rw [if_pos rfl]) fun q _ hq => by rw [if_neg hq, Int.sub_zero]
    rw [es1]
    have hx3 : ExD s b H (upd H3 b (.lst (qs.map fun q => V.int (held qs c ff q - if q.1 = r.1 then x.2 else 0)))) := ((ExD.of e12).trans ExD.updA).trans ((ExD.of e3).trans ExD.updL)
    generalize hH4 : upd H3 b (.lst (qs.map fun q => V.int (held qs c ff q - if q.1 = r.1 then x.2 else 0))) = H4 at hx3
    have hb4 : H4 b = some (.lst (qs.map fun q => V.int (held qs c ff q - if q.1 = r.1 then x.2 else 0))) := by rw [← hH4, upd_same]
    have hs4 : H4 s = some (.lst (stV qs (bump ff r.1))) := by
      rw [← hH4, upd_ne S.ne]
      exact e3 _ _ upd_same
    have hd4 : H4 d = some (.dK (numK qs)) := hx3 _ _ hd (ne_of hd S.st (by intro z; cases z)) (ne_of hd S.ba (by intro z; cases z))
    -- balances[numbers[creditor]] += amount
    refine s_augL (j := j) (σ := [some (.ref a), some (.ref d), some (.ref s), some (.ref b), some (.int (i : Nat)), some (.str x.1), some (.int x.2)]) hb4 (ev_var rfl) (ev_dget (k := Sum.inr x.1) (ev_var rfl) (ev_var rfl) hd4 (by rw [← ejn]; exact numK_at S.nd hqj)) (by rw [List.getElem?_map, hqj]; rfl) (ev_var rfl) fun H5 e5 => ?_
    have es2 : (qs.map fun q => V.int (held qs c ff q - if q.1 = r.1 then x.2 else 0)).set j (.int ((held qs c ff rj - if rj.1 = r.1 then x.2 else 0) + x.2)) = baV qs c (bump ff r.1) := by
      refine map_set S.nd hqj ?_ fun q hq hn => ?_
      · rw [KQ.held_bump S.nd (List.mem_of_getElem? hqr) (List.mem_of_getElem? hqj) hx, if_pos ejn.symm]
      · rw [KQ.held_bump S.nd (List.mem_of_getElem? hqr) hq hx, if_neg (c := x.1 = q.1) (fun z => hn (by rw [ejn]; exact z.symm)), Int.add_zero]
    rw [es2]
    have hx5 : ExD s b H (upd H5 b (.lst (baV qs c (bump ff r.1)))) := hx3.trans ((ExD.of e5).trans ExD.updL)
    refine k _ hx5 ⟨S.q.tx (hx5.tx S.st S.ba), S.l40, S.nd, ?_, upd_same, S.ne⟩
    rw [upd_ne S.ne]
    exact e5 _ _ hs4
end
end NQ
namespace NQ
open PySem PySem.Spec PyProof.Rows L2 Evl
open KQ (Row held bump drop bump_same bump_ne drop_same drop_ne)
theorem bump_drop {f : Str → Nat} {z : Str} (h : f z ≠ 0) : bump (drop f z) z = f := by
  funext y
  by_cases e : y = z
  · subst e
    rw [bump_same, drop_same]
    omega
  · rw [bump_ne e, drop_ne e]
theorem set_drop {qs : List (Row Str)} (nd : (names qs).Nodup) {i : Nat} {r : Row Str} (h : qs[i]? = some r) {f : Str → Nat} (h0 : f r.1 ≠ 0) : (stV qs f).set i (.int ((f r.1 : Nat) - 1)) = stV qs (drop f r.1) :=
  map_set nd h (by rw [drop_same]; congr 1; omega) fun q _ hq => by rw [drop_ne hq]
def canPay (qs : List (Row Str)) (c : Str → Int) (f : Str → Nat) (r : Row Str) : Bool :=
  match r.2.2[f r.1]? with
  | some x => decide (x.2 ≤ held qs c f r)
  | none => false
def payIx (qs : List (Row Str)) (c : Str → Int) (f : Str → Nat) : List Nat := idxs qs.length fun i => canPay qs c f (qs.getD i rowD)
def ixV (is : List Nat) : List V := is.map fun i => V.int (i : Nat)
def spBack : Sp := fun vs H Q _ => ∃ a d s b qs c f i r x, vs = [.ref a, .ref d, .ref s, .ref b, .int (i : Nat)] ∧ Sts H a s b qs c f ∧ H d = some (.dK (numK qs)) ∧ qs[i]? = some r ∧ f r.1 ≠ 0 ∧ r.2.2[f r.1 - 1]? = some x ∧ x.1 ∈ names qs ∧
  ∀ H', ExD s b H H' → Sts H' a s b qs c (drop f r.1) → Q .non H'
def spPaying : Sp := fun vs H Q _ => ∃ a s b qs c f, vs = [.ref a, .ref s, .ref b] ∧ Sts H a s b qs c f ∧ ∀ l H', H l = none → Ex H H' → H' l = some (.lst (ixV (payIx qs c f))) → Q (.ref l) H'
section
variable {P : Program} {w : World} {K : PySem.W.Frag} {mg : Str → Option Value} {base : Heap} {f : Addr} {fd : FuncData} {aK : Addr} {tk : Tk}
theorem ok_takes_back (F : Fun K "takes_back" "takes_back" s_takes_back f fd) (T : Tx K mg aK tk) : FnOk P w K mg base CX0 1 f fd ["queues", "numbers", "state", "balances", "at"] spBack := by
  refine F.ok sc_takes_back (fun vs H Q E h => ?_) (fun cdv A outer s H vs Q E hr h => ?_)
  · obtain ⟨a, d, s, b, qs, c, ff, i, r, x, rfl, _⟩ := h
    rfl
  · obtain ⟨a, d, s, b, qs, c, ff, i, r, x, rfl, S, hd, hqr, hf0, hx, hxm, k⟩ := h
    have hu := hu_of hr
    refine ⟨_, (pss_cons (ps_augS (pv 2) (pv 4) (getL (K := K) rfl) pe_int ip_sub set_list)
      (pss_cons (ps_asg (pe_ix (ixT (K := K) rfl) (pe_ix (ixT (K := K) rfl) (pe_ix (ixT (K := K) rfl) (pe_ix (ixT (K := K) rfl) (pv 0) pe_int (fun _ _ => rfl)) (pv 4) (fun _ _ => rfl)) pe_int (fun _ _ => rfl)) (pe_ix (ixL (K := K) rfl) (pv 2) (pv 4) (fun _ _ => rfl)) (fun _ _ => rfl)) (pgTup (K := K) (n := 2) rfl rfl (pgs_cons (pg_name (i := 5) sc_takes_back.nd rfl (Or.inl rfl)) (pgs_cons (pg_name (i := 6) sc_takes_back.nd rfl (Or.inl rfl)) pgs_nil))))
      (pss_cons (ps_augS (pv 3) (pv 4) (getL (K := K) rfl) (pv 6) ip_add set_list)
      (pss_one (ps_augS (pv 3) (pe_dget hu (pv 1) (pv 5) (fun _ _ => rfl)) (getL (K := K) rfl) (pv 6) ip_sub set_list))))), ?_⟩
    obtain ⟨hb0, ha, ps, hb, hpr⟩ := id S.q
    obtain ⟨p, hp⟩ := get_of (l := ps) (i := i) rfl (by rw [paired_len hpr]; exact (List.getElem?_eq_some_iff.mp hqr).1)
    obtain ⟨q', hrow, ps', hp', hpr'⟩ := paired_at hpr hp hqr
    obtain ⟨px, hpx⟩ := get_of (l := ps') (i := ff r.1 - 1) rfl (by rw [paired_len hpr']; exact (List.getElem?_eq_some_iff.mp hx).1)
    have hxp : H px = some (.tup [.str x.1, .int x.2]) := paired_at hpr' hpx hx
    obtain ⟨j, hj, ej⟩ := List.mem_iff_getElem.mp hxm
    rw [List.length_map] at hj
    obtain ⟨rj, hqj⟩ := get_of (l := qs) (i := j) rfl hj
    have ejn : rj.1 = x.1 := by
      rw [← ej, List.getElem_map]
      rw [List.getElem?_eq_getElem hj] at hqj
      rw [Option.some.inj hqj]
    have hgx : r.2.2[drop ff r.1 r.1]? = some x := by
      rw [drop_same]
      exact hx
    have hbump : ∀ q ∈ qs, held qs c ff q = held qs c (drop ff r.1) q - (if q.1 = r.1 then x.2 else 0) + if x.1 = q.1 then x.2 else 0 := fun q hq => by
      have := KQ.held_bump (c := c) S.nd (List.mem_of_getElem? hqr) hq hgx
      rw [bump_drop hf0] at this
      exact this
    -- state[at] -= 1
    refine q_augL (fn := fun i j => i - j) (σ := [some (.ref a), some (.ref d), some (.ref s), some (.ref b), some (.int (i : Nat)), none, none]) S.st (ev_var rfl) (ev_var rfl) (stV_at hqr) ev_c fun H1 e1 => ?_
    rw [show (stV qs ff).set i (.int (((ff r.1 : Nat) : Int) - 1)) = stV qs (drop ff r.1) from set_drop S.nd hqr hf0]
    have hx1 : ExD s b H (upd H1 s (.lst (stV qs (drop ff r.1)))) := (ExD.of e1).trans ExD.updA
    have hs1 : (upd H1 s (.lst (stV qs (drop ff r.1)))) s = some (.lst (stV qs (drop ff r.1))) := upd_same
    have hb1 : (upd H1 s (.lst (stV qs (drop ff r.1)))) b = some (.lst (baV qs c ff)) := by
      rw [upd_ne S.ne.symm]
      exact e1 _ _ S.ba
    generalize upd H1 s (.lst (stV qs (drop ff r.1))) = H2 at hx1 hs1 hb1
    have tx := hx1.tx S.st S.ba
    -- creditor, amount = queues[1][at][2][state[at]]
    refine q_asgT2 (K := K) (p := px) (x := .str x.1) (y := .int x.2) (ev_op (ev_op (ev_op (ev_houses (K := K) (ev_var rfl) (tx _ _ ha)) (ev_var rfl) (rv_ixT (st_of (tx _ _ hb)) (at_of (j := i) rfl (by rw [List.getElem?_map, hp]; rfl)))) ev_c (rv_ixT (st_of (tx _ _ hrow)) (at_of (j := 2) rfl rfl)))
      (ev_op (ev_var rfl) (ev_var rfl) (rv_ixL (sq_of hs1) (at_of (j := i) rfl (stV_at hqr)))) (rv_ixT (st_of (tx _ _ hp')) (at_of (j := ff r.1 - 1) (by rw [drop_same]) (by rw [List.getElem?_map, hpx]; rfl)))) (tx _ _ hxp) fun H3 e3 => ?_
    -- balances[at] += amount
    refine q_augL (fn := fun i j => i + j) (σ := [some (.ref a), some (.ref d), some (.ref s), some (.ref b), some (.int (i : Nat)), some (.str x.1), some (.int x.2)]) (e3 _ _ hb1) (ev_var rfl) (ev_var rfl) (baV_at hqr) (ev_var rfl) fun H4 e4 => ?_
    have es1 : (baV qs c ff).set i (.int (held qs c ff r + x.2)) = qs.map fun q => V.int (held qs c ff q + if q.1 = r.1 then x.2 else 0) :=
      map_set S.nd hqr (by rw [if_pos rfl]) fun q _ hq => by rw [if_neg hq, Int.add_zero]
    rw [es1]
    have hx4 : ExD s b H (upd H4 b (.lst (qs.map fun q => V.int (held qs c ff q + if q.1 = r.1 then x.2 else 0)))) := hx1.trans ((ExD.of (e3.trans e4)).trans ExD.updL)
    have hb4 : (upd H4 b (.lst (qs.map fun q => V.int (held qs c ff q + if q.1 = r.1 then x.2 else 0)))) b = some (.lst (qs.map fun q => V.int (held qs c ff q + if q.1 = r.1 then x.2 else 0))) := upd_same
    have hs4 : (upd H4 b (.lst (qs.map fun q => V.int (held qs c ff q + if q.1 = r.1 then x.2 else 0)))) s = some (.lst (stV qs (drop ff r.1))) := by
      rw [upd_ne S.ne]
      exact (e3.trans e4) _ _ hs1
    generalize upd H4 b (.lst (qs.map fun q => V.int (held qs c ff q + if q.1 = r.1 then x.2 else 0))) = H5 at hx4 hb4 hs4
    have hd4 : H5 d = some (.dK (numK qs)) := hx4 _ _ hd (ne_of hd S.st (by intro z; cases z)) (ne_of hd S.ba (by intro z; cases z))
    -- balances[numbers[creditor]] -= amount
    refine s_augL (fn := fun i j => i - j) (j := j) (σ := [some (.ref a), some (.ref d), some (.ref s), some (.ref b), some (.int (i : Nat)), some (.str x.1), some (.int x.2)]) hb4 (ev_var rfl) (ev_dget (k := Sum.inr x.1) (ev_var rfl) (ev_var rfl) hd4 (by rw [← ejn]; exact numK_at S.nd hqj)) (by rw [List.getElem?_map, hqj]; rfl) (ev_var rfl) fun H6 e6 => ?_
    have es2 : (qs.map fun q => V.int (held qs c ff q + if q.1 = r.1 then x.2 else 0)).set j (.int ((held qs c ff rj + if rj.1 = r.1 then x.2 else 0) - x.2)) = baV qs c (drop ff r.1) := by
      refine map_set S.nd hqj ?_ fun q hq hn => ?_
      · rw [hbump rj (List.mem_of_getElem? hqj), if_pos ejn.symm]
        congr 1
        omega
      · rw [hbump q hq, if_neg (c := x.1 = q.1) (fun z => hn (by rw [ejn]; exact z.symm))]
        congr 1
        omega
    rw [es2]
    have hx6 : ExD s b H (upd H6 b (.lst (baV qs c (drop ff r.1)))) := hx4.trans ((ExD.of e6).trans ExD.updL)
    refine k _ hx6 ⟨S.q.tx (hx6.tx S.st S.ba), S.l40, S.nd, ?_, upd_same, S.ne⟩
    rw [upd_ne S.ne]
    exact e6 _ _ hs4
theorem ok_paying (F : Fun K "paying" "paying" s_paying f fd) (T : Tx K mg aK tk) : FnOk P w K mg base CX0 1 f fd ["queues", "state", "balances"] spPaying := by
  refine F.ok sc_paying (fun vs H Q E h => ?_) (fun cdv A outer s H vs Q E hr h => ?_)
  · obtain ⟨a, s, b, qs, c, ff, rfl, _⟩ := h
    rfl
  · obtain ⟨a, s, b, qs, c, ff, rfl, S, k⟩ := h
    have hu := hu_of hr
    refine ⟨_, (pss_cons (ps_set (i := 3) sc_paying.nd rfl (Or.inl rfl) (pe_lst pa_nil))
      (pss_cons (ps_for PassesOwn.never rfl (piEnum (K := K) rfl (by rfl) T.enumerate (pa_cons (pe_ix (ixT (K := K) rfl) (pv 0) pe_int (fun _ _ => rfl)) pa_nil)) (pgTup (K := K) (n := 2) rfl rfl (pgs_cons (pg_name (i := 4) sc_paying.nd rfl (Or.inl rfl)) (pgs_cons (pg_name (i := 5) sc_paying.nd rfl (Or.inl rfl)) pgs_nil)))
        (pss_one (ps_if (PW.pt (pw_and (pt_cmpR op_lt (pe_ix (ixL (K := K) rfl) (pv 1) (pv 4) (fun _ _ => rfl)) (pe_callB (crLen (K := K) rfl) (by rfl) T.len (by decide +kernel) (pa_cons (pe_ix (ixT (K := K) rfl) (pv 5) pe_int (fun _ _ => rfl)) pa_nil)) (nomark _)) (pw_and1 (pt_cmpR op_ge (pe_ix (ixL (K := K) rfl) (pv 2) (pv 4) (fun _ _ => rfl)) (pe_ix (ixT (K := K) rfl) (pe_ix (ixT (K := K) rfl) (pe_ix (ixT (K := K) rfl) (pv 5) pe_int (fun _ _ => rfl)) (pe_ix (ixL (K := K) rfl) (pv 1) (pv 4) (fun _ _ => rfl)) (fun _ _ => rfl)) pe_int (fun _ _ => rfl)) (nomark _)))))
        (pss_one (ps_expr (pe_bm PySem.F.plainAttrs_list PySem.F.slot_list_append PySem.F.type_list_append mt_append (pv 3) (pa_cons (pv 4) pa_nil))))
        pss_nil)))
      (pss_one (ps_ret (pv 3))))), ?_⟩
    obtain ⟨hb0, ha, ps, hb, hpr⟩ := id S.q
    have hlen : (ps.map V.ref).length = qs.length := by rw [List.length_map, paired_len hpr]
    have l40 := S.l40
    refine q_asgL (el_lst ea_nil (by decide)) fun l H1 hl0 e1 hl => ?_
    refine q_forE (K := K) (a := hb0) (xs := ps.map V.ref) (σ := [some (.ref a), some (.ref s), some (.ref b), some (.ref l), none, none]) (ev_houses (K := K) (ev_var rfl) (e1 _ _ ha)) (st_of (e1 _ _ hb))
      (fun i σ' H' => ∃ y4 y5, σ' = [some (.ref a), some (.ref s), some (.ref b), some (.ref l), y4, y5] ∧ i ≤ 40 ∧ Ex H H' ∧ H' l = some (.lst (ixV (idxs i fun i => canPay qs c ff (qs.getD i rowD)))))
      (fun H2 e2 => ⟨none, none, rfl, by omega, e1.trans e2, e2 _ _ hl⟩) (fun i σ' H' hP => ?_) (fun i x σ' H' H2 N hx hP e2 kN => ?_) (fun σ' H' hP => ?_)
    · obtain ⟨_, _, _, _, e, _⟩ := hP
      exact st_of (e _ _ hb)
    · obtain ⟨y4, y5, rfl, hi, e, hl'⟩ := hP
      have e' := e.trans e2
      obtain ⟨p, r, rfl, _, hqr, q', hrow, ps', hp', hpr'⟩ := RowsH.at hpr hx
      have hiq := (List.getElem?_eq_some_iff.mp hqr).1
      have egd : qs.getD i rowD = r := getD_of hqr
      have est : ∀ {H3 : Hp}, Ex H2 H3 → Ev (tOp (rIxL K) (tVar 1) (tVar 4)) [some (.ref a), some (.ref s), some (.ref b), some (.ref l), some (.int (i : Nat)), some (.ref p)] H3 (.int (ff r.1 : Nat)) := fun e3 => ev_op (ev_var rfl) (ev_var rfl) (rv_ixL (sq_of ((e'.trans e3) _ _ S.st)) (at_of (j := i) rfl (stV_at hqr)))
      have epay : ∀ {H3 : Hp}, Ex H2 H3 → Ev (tOp (rIxT K) (tVar 5) (tC (.int 2))) [some (.ref a), some (.ref s), some (.ref b), some (.ref l), some (.int (i : Nat)), some (.ref p)] H3 (.ref q') := fun e3 => ev_op (ev_var rfl) ev_c (rv_ixT (st_of ((e'.trans e3) _ _ hrow)) (at_of (j := 2) rfl rfl))
      refine s_when (σ := [some (.ref a), some (.ref s), some (.ref b), some (.ref l), some (.int (i : Nat)), some (.ref p)]) (b := canPay qs c ff r) ?_ (fun hb H3 e3 => ?_) (fun hb H3 e3 => kN _ _ ⟨_, _, rfl, by omega, e'.trans e3, ?_⟩)
      · refine et_is (et_and (et_test (ev_ltV (est (Ex.refl _)) (ev_lenT (epay (Ex.refl _)) (st_of (e' _ _ hp'))))) (b := canPay qs c ff r) fun hlt => ?_) ?_
        · rw [List.length_map, paired_len hpr', decide_eq_true_eq] at hlt
          obtain ⟨x, hx2⟩ := get_of (l := r.2.2) (i := ff r.1) rfl (by omega)
          obtain ⟨px, hpx⟩ := get_of (l := ps') (i := ff r.1) (paired_len hpr') (by omega)
          have hxp : H px = some (.tup [.str x.1, .int x.2]) := paired_at hpr' hpx hx2
          refine et_is (et_test (ev_geV (i := held qs c ff r) (j := x.2) (ev_op (ev_var rfl) (ev_var rfl) (rv_ixL (sq_of (e' _ _ S.ba)) (at_of (j := i) rfl (baV_at hqr)))) (ev_op (ev_op (epay (Ex.refl _)) (est (Ex.refl _)) (rv_ixT (st_of (e' _ _ hp')) (at_of (j := ff r.1) rfl (by rw [List.getElem?_map, hpx]; rfl)))) ev_c (rv_ixT (st_of (e' _ _ hxp)) (at_of (j := 1) rfl rfl))))) ?_
          unfold canPay
          rw [hx2]
        · rw [List.length_map, paired_len hpr']
          unfold canPay
          cases hx2 : r.2.2[ff r.1]? with
          | none => simp
          | some x =>
            have := (List.getElem?_eq_some_iff.mp hx2).1
            rw [decide_eq_true (by omega), Bool.true_and]
      · refine s_app (K := K) ((e2.trans e3) _ _ hl') (ev_var rfl) (ev_var rfl) ?_ fun H4 e4 => kN _ _ ⟨_, _, rfl, by omega, ?_, ?_⟩
        · have h1 : (ixV (idxs i fun i => canPay qs c ff (qs.getD i rowD))).length ≤ i := by
            unfold ixV idxs
            rw [List.length_map]
            have := List.length_filter_le (fun i => canPay qs c ff (qs.getD i rowD)) (List.range i)
            rw [List.length_range] at this
            exact this
          omega
        · exact Ex.mut (e'.trans (e3.trans e4)) hl0
        · rw [upd_same, idxs_yes (by rw [egd]; exact hb)]
          unfold ixV
          rw [List.map_append]
          rfl
      · rw [idxs_no (by rw [egd]; exact hb)]
        exact (e2.trans e3) _ _ hl'
    · obtain ⟨y4, y5, rfl, hi, e, hl'⟩ := hP
      rw [hlen] at hl'
      exact s_ret (ev_var rfl) fun H2 e2 => k l H2 hl0 (e.trans e2) (e2 _ _ hl')
end
end NQ
namespace NQ
open PySem PySem.Spec PyProof.Rows L2 Evl
open KQ (Row held bump drop bump_same bump_ne drop_same drop_ne)
/-! ### one payment moved, in a list of balances -/
def midV (qs : List (Row Str)) (c : Str → Int) (g : Str → Nat) (r : Row Str) (x : Str × Int) : List V := qs.map fun q => V.int (held qs c g q - if q.1 = r.1 then x.2 else 0)
section
variable {qs : List (Row Str)} {c : Str → Int} {g : Str → Nat} {r rj : Row Str} {x : Str × Int} {i j : Nat}
theorem set_mid1 (nd : (names qs).Nodup) (hqr : qs[i]? = some r) : (baV qs c g).set i (.int (held qs c g r - x.2)) = midV qs c g r x :=
  map_set nd hqr (by rw [if_pos rfl]) fun q _ hq => by rw [if_neg hq, Int.sub_zero]
theorem mid_at (hqj : qs[j]? = some rj) : (midV qs c g r x)[j]? = some (.int (held qs c g rj - if rj.1 = r.1 then x.2 else 0)) := by
  unfold midV
  rw [List.getElem?_map, hqj]
  rfl
theorem set_mid2 (nd : (names qs).Nodup) (hqr : qs[i]? = some r) (hx : r.2.2[g r.1]? = some x) (hqj : qs[j]? = some rj) (ejn : rj.1 = x.1) :
    (midV qs c g r x).set j (.int ((held qs c g rj - if rj.1 = r.1 then x.2 else 0) + x.2)) = baV qs c (bump g r.1) := by
  refine map_set nd hqj ?_ fun q hq hn => ?_
  · rw [KQ.held_bump nd (List.mem_of_getElem? hqr) (List.mem_of_getElem? hqj) hx, if_pos ejn.symm]
  · rw [KQ.held_bump nd (List.mem_of_getElem? hqr) hq hx, if_neg (c := x.1 = q.1) (fun z => hn (by rw [ejn]; exact z.symm)), Int.add_zero]
end
/-! ### states by the first rows -/
def upto (qs : List (Row Str)) (k : Nat) (f : Str → Nat) : Str → Nat := fun z => if z ∈ (names qs).take k then f z else 0
def inrow (z0 : Str) (j : Nat) (g : Str → Nat) : Str → Nat := fun z => if z = z0 then j else g z
theorem inrow_bump (z0 : Str) (j : Nat) (g : Str → Nat) : bump (inrow z0 j g) z0 = inrow z0 (j + 1) g := by
  funext y
  unfold inrow KQ.bump
  by_cases e : y = z0
  · simp [e]
  · simp [e]
theorem not_take {qs : List (Row Str)} (nd : (names qs).Nodup) {k : Nat} {r : Row Str} (h : qs[k]? = some r) : r.1 ∉ (names qs).take k := fun hm => by
  obtain ⟨i, hi, e⟩ := List.mem_iff_getElem.mp hm
  rw [List.length_take] at hi
  rw [List.getElem_take] at e
  have a1 : (names qs)[k]? = some r.1 := by rw [List.getElem?_map, h]; rfl
  have a2 : (names qs)[i]? = some r.1 := by rw [List.getElem?_eq_getElem (by omega), e]
  rw [← a1] at a2
  have := (List.getElem?_inj (by omega) nd).mp a2
  omega
theorem upto_in {qs : List (Row Str)} (nd : (names qs).Nodup) {k : Nat} {r : Row Str} (h : qs[k]? = some r) (f : Str → Nat) : inrow r.1 0 (upto qs k f) = upto qs k f := by
  funext y
  unfold inrow
  by_cases e : y = r.1
  · rw [if_pos e, e]
    unfold upto
    rw [if_neg (not_take nd h)]
  · rw [if_neg e]
theorem upto_out {qs : List (Row Str)} {k : Nat} {r : Row Str} (h : qs[k]? = some r) (f : Str → Nat) : inrow r.1 (f r.1) (upto qs k f) = upto qs (k + 1) f := by
  funext y
  have a1 : (names qs)[k]? = some r.1 := by rw [List.getElem?_map, h]; rfl
  have e1 : (names qs).take (k + 1) = (names qs).take k ++ [r.1] := by
    rw [List.take_succ, a1]
    rfl
  unfold inrow upto
  rw [e1]
  by_cases e : y = r.1
  · rw [if_pos e, e, if_pos (by simp)]
  · rw [if_neg e]
    by_cases m : y ∈ (names qs).take k
    · rw [if_pos m, if_pos (List.mem_append_left _ m)]
    · rw [if_neg m, if_neg (by simp [m, e])]
theorem upto_none (qs : List (Row Str)) (f : Str → Nat) : upto qs 0 f = fun _ => 0 := by
  funext y
  unfold upto
  simp
theorem upto_all {qs : List (Row Str)} (c : Str → Int) (f : Str → Nat) : baV qs c (upto qs qs.length f) = baV qs c f := by
  have e : ∀ r ∈ qs, upto qs qs.length f r.1 = f r.1 := fun r hr => by
    unfold upto
    rw [if_pos]
    rw [List.take_of_length_le (by rw [List.length_map]; exact Nat.le_refl _)]
    exact List.mem_map.mpr ⟨r, hr, rfl⟩
  unfold baV
  refine List.map_congr_left fun r hr => ?_
  unfold held
  rw [e r hr, KQ.got_congr e]
theorem held_zero {qs : List (Row Str)} {c : Str → Int} (r : Row Str) : held qs c (fun _ => 0) r = c r.1 := by
  have h1 : KQ.outS r.2.2 0 = 0 := by unfold KQ.outS; simp
  have h2 : KQ.got qs (fun _ => 0) r.1 = 0 := KQ.sum_zero fun x hx => by
    obtain ⟨q, _, rfl⟩ := List.mem_map.mp hx
    unfold KQ.inS
    simp
  unfold held
  rw [h1, h2]
  omega
section
variable {K : PySem.W.Frag} {σ : L2.St} {H H' : Hp} {ta tb tc te tx td ty tl : TE} {t u : TT} {x y z v : V} {tr : TA} {D : Ends} {tz : TS}
theorem st_updL {p l : Addr} {xs ys : List V} {o : HO} (h : SqT K H p xs) (hl : H l = some (.lst ys)) : SqT K (upd H l o) p xs := by
  rcases h with (h | ⟨o', h⟩) | h
  · exact Or.inl (Or.inl (by rw [upd_ne (ne_of h hl (by intro z; cases z))]; exact h))
  · exact Or.inl (Or.inr ⟨o', by rw [upd_ne (ne_of h hl (by intro z; cases z))]; exact h⟩)
  · exact Or.inr h
theorem st_updD {p l : Addr} {xs : List V} {kvs : List (Key × V)} {o : HO} (h : SqT K H p xs) (hl : H l = some (.dK kvs)) : SqT K (upd H l o) p xs := by
  rcases h with (h | ⟨o', h⟩) | h
  · exact Or.inl (Or.inl (by rw [upd_ne (ne_of h hl (by intro z; cases z))]; exact h))
  · exact Or.inl (Or.inr ⟨o', by rw [upd_ne (ne_of h hl (by intro z; cases z))]; exact h⟩)
  · exact Or.inr h
/-- for over a tuple, new or not, whatever the body changes -/
theorem s_forX {xs : List V} {g : TG} {tu : TS} (h : EvQ K tl σ H xs) (Pv : Addr → Nat → L2.St → Hp → Prop) (h0 : ∀ p H1, Ex H H1 → SqT K H1 p xs → Pv p 0 σ H1) (hl : ∀ p i σ' H', Pv p i σ' H' → SqT K H' p xs)
    (hs : ∀ p i x σ' H', xs[i]? = some x → Pv p i σ' H' → g x σ' H' fun σ2 H2 => tu { D with nx := Pv p (i + 1), ct := Pv p (i + 1), bk := D.nx } σ2 H2) (hd : ∀ p σ' H', Pv p xs.length σ' H' → D.nx σ' H') : tFor (iTup K tl) g tu D σ H :=
  h H (Ex.refl H) _ fun p H1 e hp => ⟨p, rfl, ⟨xs, hp⟩, for_tup (Pv p) (h0 p H1 e hp) (fun i σ' H' _ => hl p i σ' H') (hs p) (hd p)⟩
/-- d, l = a new dict, a new list -/
theorem q_parDL {i j : Nat} {kvs : List (Key × V)} {xs : List V} (h1 : EvD ta σ H kvs) (h2 : EvL tb σ H xs) (k : ∀ d l H1, H d = none → H l = none → d ≠ l → Ex H H1 → H1 d = some (.dK kvs) → H1 l = some (.lst xs) → tz D ((σ.set i (some (.ref d))).set j (some (.ref l))) H1) :
    tSeq (tPar i j (tCons ta (tCons tb tNil))) tz D σ H := h1 H (Ex.refl H) _ fun d H1 hd0 e1 hd => h2 H1 e1 _ fun l H2 hl0 e2 hl => ⟨.ref d, .ref l, rfl, k d l H2 hd0 (fresh_back e1 hl0) (ne_of_none hd hl0) (e1.trans e2) (e2 _ _ hd) hl⟩
theorem ed_num {a : Addr} {qs : List (Row Str)} (h : EvA tr σ H [.ref a]) (hq : QH H a qs) (g : GoodQ qs) : EvD (tCall spNum [] E0 tr) σ H (numK qs) := fun H1 e Q q => by
  refine h H1 e _ fun H2 e2 => ?_
  rw [List.append_nil]
  exact ⟨a, qs, rfl, hq.tx (TX.of (e.trans e2)), g, fun d H' hd e3 hd' => q d H' (fresh_back e2 hd) (e2.trans e3) hd'⟩
end
def spBal : Sp := fun vs H Q _ => ∃ a s qs c f, vs = [.ref a, .ref s] ∧ QH H a qs ∧ GoodQ qs ∧ H s = some (.lst (stV qs f)) ∧ KQ.Within qs f ∧ (∀ r ∈ qs, c r.1 = r.2.1) ∧ ∀ l H', H l = none → Ex H H' → H' l = some (.lst (baV qs c f)) → Q (.ref l) H'
section
variable {P : Program} {w : World} {K : PySem.W.Frag} {mg : Str → Option Value} {base : Heap} {f : Addr} {fd : FuncData} {aK : Addr} {tk : Tk}
theorem ok_balance_list (F : Fun K "balance_list" "balance_list" s_balance_list f fd) (T : Tx K mg aK tk) (c_number_of : Cal P w K mg base CX0 1 "number_of" ["queues"] spNum) : FnOk P w K mg base CX0 2 f fd ["queues", "state"] spBal := by
  refine F.ok sc_balance_list (fun vs H Q E h => ?_) (fun cdv A outer s H vs Q E hr h => ?_)
  · obtain ⟨a, s, qs, c, ff, rfl, _⟩ := h
    rfl
  · obtain ⟨a, s, qs, c, ff, rfl, hq, g, hst, hw, hc, k⟩ := h
    have hu := hu_of hr
    refine ⟨_, (pss_cons (ps_par (i := 2) (j := 3) (by rfl) sc_balance_list.nd rfl rfl (by decide) rfl rfl (pa_cons (pe_cl c_number_of hr (by decide) (by rfl) (pa_cons (pv 0) pa_nil)) (pa_cons (pe_lc (own := [("part", 4)]) rfl sc_balance_list.nd (piTup (K := K) rfl (pe_ix (ixT (K := K) rfl) (pv 0) pe_int (fun _ _ => rfl))) (blkOk_by (own := [("part", 4)]) (N := N_balance_list) (sc := defScope s_balance_list) (by decide +kernel)) (fun _ _ _ _ _ => (pg_name (i := 4) sc_balance_list.nd rfl (Or.inl rfl))) (fun _ _ _ _ _ => pts_nil) (fun _ _ _ _ _ => (pe_ix (ixT (K := K) rfl) (pv 4) pe_int (fun _ _ => rfl)))) pa_nil)) (by rfl))
      (pss_cons (ps_for PassesOwn.never rfl (piEnum (K := K) rfl (by rfl) T.enumerate (pa_cons (pe_ix (ixT (K := K) rfl) (pv 0) pe_int (fun _ _ => rfl)) pa_nil)) (pgTup (K := K) (n := 2) rfl rfl (pgs_cons (pg_name (i := 5) sc_balance_list.nd rfl (Or.inl rfl)) (pgs_cons (pg_name (i := 4) sc_balance_list.nd rfl (Or.inl rfl)) pgs_nil)))
        (pss_one (ps_for PassesOwn.never rfl (piTup (K := K) rfl (pe_slice (slA (K := K) rfl) (pe_ix (ixT (K := K) rfl) (pv 4) pe_int (fun _ _ => rfl)) po_none (po_some (pe_ix (ixL (K := K) rfl) (pv 1) (pv 5) (fun _ _ => rfl))))) (pgTup (K := K) (n := 2) rfl rfl (pgs_cons (pg_name (i := 6) sc_balance_list.nd rfl (Or.inl rfl)) (pgs_cons (pg_name (i := 7) sc_balance_list.nd rfl (Or.inl rfl)) pgs_nil)))
        (pss_cons (ps_augS (pv 3) (pv 5) (getL (K := K) rfl) (pv 7) ip_sub set_list)
      (pss_one (ps_augS (pv 3) (pe_dget hu (pv 2) (pv 6) (fun _ _ => rfl)) (getL (K := K) rfl) (pv 7) ip_add set_list))))))
      (pss_one (ps_ret (pv 3))))), ?_⟩
    obtain ⟨hb0, ha, ps, hb, hpr⟩ := id hq
    have hlen : (ps.map V.ref).length = qs.length := by rw [List.length_map, paired_len hpr]
    have l40 := g.l40
    have nd := asc_nodup g.asc
    have wk := el_lcV (te := tOp (rIxT K) (tVar 4) (tC (.int 1))) (tt := tYes) (g := gName 4) (vs := [4]) (σ := [some (.ref a), some (.ref s), none, none, none, none, none, none]) (H := H) (fun i => V.int (qs.getD i rowD).2.1) (fun _ => true) (ei_tup (K := K) (eq_ev (ev_houses (K := K) (ev_var (i := 0) rfl) ha) (st_of hb))) (by rw [hlen]; omega)
      fun i x H5 H6 e5 hi hy => by
        obtain ⟨rfl, hx⟩ := hy
        obtain ⟨p, r, rfl, _, hqr, q', hrow, _⟩ := RowsH.at hpr hx
        refine ⟨Ex.refl _, _, fun R h => h, rfl, et_yes, fun _ => ?_⟩
        rw [getD_of hqr]
        exact ev_op (ev_var rfl) ev_c (rv_ixT (st_of (e5 _ _ hrow)) (at_of (j := 1) rfl rfl))
    rw [idx_map rowD (fun r : Row Str => V.int r.2.1) qs hlen] at wk
    have ecash : qs.map (fun r => V.int r.2.1) = baV qs c (upto qs 0 ff) := by
      rw [upto_none]
      unfold baV
      exact List.map_congr_left fun r hr => by rw [held_zero, hc r hr]
    rw [ecash] at wk
    refine q_parDL (ed_num (ea_cons (ev_var rfl) ea_nil) hq g) wk fun d l H1 hd0 hl0 hdl e1 hd hl => ?_
    refine q_forE (K := K) (a := hb0) (xs := ps.map V.ref) (σ := [some (.ref a), some (.ref s), some (.ref d), some (.ref l), none, none, none, none]) (ev_houses (K := K) (ev_var rfl) (e1 _ _ ha)) (st_of (e1 _ _ hb))
      (fun i σ' H' => ∃ y4 y5 y6 y7, σ' = [some (.ref a), some (.ref s), some (.ref d), some (.ref l), y4, y5, y6, y7] ∧ Ex H H' ∧ H' d = some (.dK (numK qs)) ∧ H' l = some (.lst (baV qs c (upto qs i ff))))
      (fun H2 e2 => ⟨none, none, none, none, rfl, e1.trans e2, e2 _ _ hd, e2 _ _ hl⟩) (fun i σ' H' hP => ?_) (fun i x σ' H' H2 N hx hP e2 kN => ?_) (fun σ' H' hP => ?_)
    · obtain ⟨_, _, _, _, _, e, _⟩ := hP
      exact st_of (e _ _ hb)
    · obtain ⟨y4, y5, y6, y7, rfl, e, hd', hl'⟩ := hP
      have e' := e.trans e2
      obtain ⟨p, r, rfl, _, hqr, q', hrow, ps', hp', hpr'⟩ := RowsH.at hpr hx
      have hrm := List.mem_of_getElem? hqr
      have hwl := hw r hrm
      have lps : (ps'.map V.ref).length = r.2.2.length := by rw [List.length_map, paired_len hpr']
      have sl := eq_slA (K := K) (σ := [some (.ref a), some (.ref s), some (.ref d), some (.ref l), some (.ref p), some (.int (i : Nat)), y6, y7]) (H := H2) (te := tOp (rIxT K) (tVar 4) (tC (.int 2))) (tb := tOp (rIxL K) (tVar 1) (tVar 5)) (n := ff r.1) (xs := ps'.map V.ref) (a := q')
        (ev_op (ev_var rfl) ev_c (rv_ixT (st_of (e' _ _ hrow)) (at_of (j := 2) rfl rfl))) (st_of (e' _ _ hp')) (ev_op (ev_var rfl) (ev_var rfl) (rv_ixL (sq_of (e' _ _ hst)) (at_of (j := i) rfl (stV_at hqr))))
      refine s_forX sl (fun pa j σ' H' => ∃ y6 y7, σ' = [some (.ref a), some (.ref s), some (.ref d), some (.ref l), some (.ref p), some (.int (i : Nat)), y6, y7] ∧ SqT K H' pa ((ps'.map V.ref).take (ff r.1)) ∧ Ex H H' ∧ H' d = some (.dK (numK qs)) ∧ H' l = some (.lst (baV qs c (inrow r.1 j (upto qs i ff)))))
        (fun pa H3 e3 hpa => ⟨y6, y7, rfl, hpa, e'.trans e3, (e2.trans e3) _ _ hd', by rw [upto_in nd hqr]; exact (e2.trans e3) _ _ hl'⟩) (fun pa j σ' H' hP => by obtain ⟨_, _, _, h, _⟩ := hP; exact h) (fun pa j x σ' H' hx hP => ?_) (fun pa σ' H' hP => ?_)
      · obtain ⟨z6, z7, rfl, hpa, e3, hd3, hl3⟩ := hP
        have hjt := hx
        rw [List.getElem?_take] at hjt
        split at hjt
        case isFalse => cases hjt
        rename_i hjf
        obtain ⟨px, xx, rfl, _, hxx, hxp⟩ := PayH.at hpr' hjt
        have hxm := (g.pay r hrm).mem xx (List.mem_of_getElem? hxx)
        obtain ⟨m, hm, em⟩ := List.mem_iff_getElem.mp hxm
        rw [List.length_map] at hm
        obtain ⟨rj, hqj⟩ := get_of (l := qs) (i := m) rfl hm
        have ejn : rj.1 = xx.1 := by
          rw [← em, List.getElem_map]
          rw [List.getElem?_eq_getElem hm] at hqj
          rw [Option.some.inj hqj]
        have hgx : r.2.2[inrow r.1 j (upto qs i ff) r.1]? = some xx := by
          unfold inrow
          rw [if_pos rfl]
          exact hxx
        refine g_tup2 (i := 6) (j := 7) (e3 _ _ hxp) ?_
        refine q_augL (fn := fun i j => i - j) (σ := [some (.ref a), some (.ref s), some (.ref d), some (.ref l), some (.ref p), some (.int (i : Nat)), some (.str xx.1), some (.int xx.2)]) hl3 (ev_var rfl) (ev_var rfl) (baV_at hqr) (ev_var rfl) fun H4 e4 => ?_
        rw [show (baV qs c (inrow r.1 j (upto qs i ff))).set i (.int (held qs c (inrow r.1 j (upto qs i ff)) r - xx.2)) = midV qs c (inrow r.1 j (upto qs i ff)) r xx from set_mid1 nd hqr]
        have hl4 : (upd H4 l (.lst (midV qs c (inrow r.1 j (upto qs i ff)) r xx))) l = some (.lst (midV qs c (inrow r.1 j (upto qs i ff)) r xx)) := upd_same
        have e5 : Ex H (upd H4 l (.lst (midV qs c (inrow r.1 j (upto qs i ff)) r xx))) := Ex.mut (e3.trans e4) hl0
        have hd4 : (upd H4 l (.lst (midV qs c (inrow r.1 j (upto qs i ff)) r xx))) d = some (.dK (numK qs)) := by
          rw [upd_ne hdl]
          exact e4 _ _ hd3
        have hpa4 : SqT K (upd H4 l (.lst (midV qs c (inrow r.1 j (upto qs i ff)) r xx))) pa ((ps'.map V.ref).take (ff r.1)) := st_updL (ex_t e4 hpa) (e4 _ _ hl3)
        generalize upd H4 l (.lst (midV qs c (inrow r.1 j (upto qs i ff)) r xx)) = H5 at hl4 e5 hd4 hpa4
        refine s_augL (fn := fun i j => i + j) (j := m) (σ := [some (.ref a), some (.ref s), some (.ref d), some (.ref l), some (.ref p), some (.int (i : Nat)), some (.str xx.1), some (.int xx.2)]) hl4 (ev_var rfl) (ev_dget (k := Sum.inr xx.1) (ev_var rfl) (ev_var rfl) hd4 (by rw [← ejn]; exact numK_at nd hqj)) (mid_at hqj) (ev_var rfl) fun H6 e6 => ?_
        rw [show (midV qs c (inrow r.1 j (upto qs i ff)) r xx).set m (.int ((held qs c (inrow r.1 j (upto qs i ff)) rj - if rj.1 = r.1 then xx.2 else 0) + xx.2)) = baV qs c (bump (inrow r.1 j (upto qs i ff)) r.1) from set_mid2 nd hqr hgx hqj ejn, inrow_bump]
        refine ⟨_, _, rfl, st_updL (ex_t e6 hpa4) (e6 _ _ hl4), Ex.mut (e5.trans e6) hl0, ?_, upd_same⟩
        rw [upd_ne hdl]
        exact e6 _ _ hd4
      · obtain ⟨z6, z7, rfl, hpa, e3, hd3, hl3⟩ := hP
        have hmin : ((ps'.map V.ref).take (ff r.1)).length = ff r.1 := by
          rw [List.length_take, lps]
          omega
        rw [hmin, upto_out hqr] at hl3
        exact kN _ _ ⟨_, _, _, _, rfl, e3, hd3, hl3⟩
    · obtain ⟨y4, y5, y6, y7, rfl, e, hd', hl'⟩ := hP
      rw [hlen, upto_all] at hl'
      exact s_ret (ev_var rfl) fun H2 e2 => k l H2 hl0 (e.trans e2) (e2 _ _ hl')
end
end NQ
namespace NQ
open PySem PySem.Spec PyProof.Rows L2 Evl
open KQ (Row held drop bump_same bump_ne drop_same drop_ne)
def cashF (qs : List (Row Str)) (z : Str) : Int := ((qs.find? fun r => decide (r.1 = z)).map fun r => r.2.1).getD 0
theorem cashF_at : ∀ {qs : List (Row Str)} {r : Row Str}, (names qs).Nodup → r ∈ qs → cashF qs r.1 = r.2.1
  | q :: qs, r, hn, h => by
    obtain ⟨h1, h2⟩ := List.nodup_cons.mp hn
    unfold cashF
    by_cases e : q.1 = r.1
    · rw [List.find?_cons_of_pos (by simp [e])]
      rcases List.mem_cons.mp h with e2 | e2
      · rw [e2]
        rfl
      · exact absurd (List.mem_map.mpr ⟨r, e2, e.symm⟩) h1
    · rw [List.find?_cons_of_neg (by simp [e])]
      rcases List.mem_cons.mp h with e2 | e2
      · exact absurd (by rw [e2]) e
      · exact cashF_at h2 e2
def total (qs : List (Row Str)) (f : Str → Nat) : Nat := (qs.map fun r => f r.1).sum
theorem total_congr {qs : List (Row Str)} {f g : Str → Nat} (h : ∀ r ∈ qs, f r.1 = g r.1) : total qs f = total qs g := by
  unfold total
  congr 1
  exact List.map_congr_left h
theorem total_bump : ∀ {qs : List (Row Str)} {f : Str → Nat} {r : Row Str}, (names qs).Nodup → r ∈ qs → total qs (KQ.bump f r.1) = total qs f + 1
  | q :: qs, f, r, hn, h => by
    obtain ⟨h1, h2⟩ := List.nodup_cons.mp hn
    have e0 : ∀ g : Str → Nat, total (q :: qs) g = g q.1 + total qs g := fun g => by
      unfold total
      rw [List.map_cons, List.sum_cons]
    rw [e0, e0]
    by_cases e : q.1 = r.1
    · rw [e, bump_same, total_congr (f := KQ.bump f r.1) (g := f) fun y hy => bump_ne fun z => h1 (List.mem_map.mpr ⟨y, hy, z.trans e.symm⟩)]
      omega
    · rcases List.mem_cons.mp h with e2 | e2
      · exact absurd (by rw [e2]) e
      · rw [total_bump h2 e2, bump_ne e]
        omega
theorem total_drop {qs : List (Row Str)} {f : Str → Nat} {r : Row Str} (nd : (names qs).Nodup) (h : r ∈ qs) (h0 : f r.1 ≠ 0) : total qs (drop f r.1) + 1 = total qs f := by
  rw [← total_bump nd h, bump_drop h0]
theorem total_le : ∀ {qs : List (Row Str)} {f : Str → Nat}, (∀ r ∈ qs, f r.1 ≤ 60) → total qs f ≤ 60 * qs.length
  | [], f, _ => Nat.zero_le _
  | q :: qs, f, h => by
    have e0 : total (q :: qs) f = f q.1 + total qs f := by
      unfold total
      rw [List.map_cons, List.sum_cons]
    have h1 := h q List.mem_cons_self
    have h2 := total_le (qs := qs) fun r hr => h r (List.mem_cons_of_mem _ hr)
    rw [e0, List.length_cons]
    omega
theorem GoodQ.total {qs : List (Row Str)} (g : GoodQ qs) {f : Str → Nat} (w : KQ.Within qs f) : total qs f ≤ 2400 := by
  have h1 := total_le (qs := qs) (f := f) fun r hr => Nat.le_trans (w r hr) (g.pay r hr).len
  have := g.l40
  omega
/-! ### the least of ints -/
theorem min_of : ∀ (ns : List Int), ns ≠ [] → ∃ (j : Nat) (m : Int), ns[j]? = some m ∧ (∀ y ∈ ns, m ≤ y) ∧ ∀ i y, i < j → ns[i]? = some y → y ≠ m
  | [], h => absurd rfl h
  | [x], _ => ⟨0, x, rfl, fun y hy => by rw [List.mem_singleton.mp hy]; exact Int.le_refl _, fun i y hi _ => absurd hi (Nat.not_lt_zero i)⟩
  | x :: z :: ns, _ => by
    obtain ⟨j, m, h1, h2, h3⟩ := min_of (z :: ns) (by simp)
    by_cases hx : x ≤ m
    · exact ⟨0, x, rfl, fun y hy => by
        rcases List.mem_cons.mp hy with e | e
        · rw [e]; exact Int.le_refl _
        · exact Int.le_trans hx (h2 y e), fun i y hi _ => absurd hi (Nat.not_lt_zero i)⟩
    · refine ⟨j + 1, m, by simpa using h1, fun y hy => ?_, fun i y hi hy => ?_⟩
      · rcases List.mem_cons.mp hy with e | e
        · rw [e]; omega
        · exact h2 y e
      · cases i with
        | zero =>
          cases hy
          omega
        | succ i => exact h3 i y (by omega) (by simpa using hy)
section
variable {K : PySem.W.Frag} {σ : L2.St} {H H' : Hp} {ta tb tc te tx td ty tl : TE} {t u : TT} {x y z v : V} {tr : TA} {D : Ends} {tz : TS}
theorem ev_min {p : Addr} {ns : List Int} {m : Int} (ha : Ev ta σ H (.ref p)) (hp : SqL K H p (ns.map V.int)) (hm : m ∈ ns) (hl : ∀ y ∈ ns, m ≤ y) : Ev (tCB (rMin K) (tCons ta tNil)) σ H (.int m) := fun H1 e Q q => by
  refine ha H1 e _ fun H2 e2 => ⟨p, ns, rfl, ex_l (e.trans e2) hp, List.length_pos_of_mem hm, fun m' h1 h2 => ?_⟩
  have : m' = m := by
    have a1 := h2 m hm
    have a2 := hl m' h1
    omega
  rw [this]
  exact q H2 e2
theorem ev_index {p : Addr} {ns : List Int} {j : Nat} {m : Int} (ha : Ev ta σ H (.ref p)) (hp : SqL K H p (ns.map V.int)) (hb : Ev tb σ H (.int m)) (hj : ns[j]? = some m) (hn : ∀ i y, i < j → ns[i]? = some y → y ≠ m) :
    Ev (tBM K "list" (rIndex K) ta (tCons tb tNil)) σ H (.int (j : Nat)) := fun H1 e Q q => by
  refine ha H1 e _ fun H2 e2 => ⟨Or.inl ⟨rfl, _, ex_l (e.trans e2) hp⟩, ?_⟩
  refine hb H2 (e.trans e2) _ fun H3 e3 => ?_
  refine ⟨p, ns.map V.int, .int m, j, .int m, rfl, rfl, ex_l ((e.trans e2).trans e3) hp, rfl, ?_, by rw [List.getElem?_map, hj]; rfl, by show (m == m) = true; simp, fun i z hi hz => ?_, q H3 (e2.trans e3)⟩
  · rw [List.all_map]
    exact List.all_eq_true.mpr fun _ _ => rfl
  · obtain ⟨y, hy, rfl⟩ := map_at hz
    show (y == m) = false
    exact beq_eq_false_iff_ne.mpr (hn i y hi hy)
theorem el_bal {a s : Addr} {qs : List (Row Str)} {c : Str → Int} {f : Str → Nat} (h : EvA tr σ H [.ref a, .ref s]) (hq : QH H a qs) (g : GoodQ qs) (hs : H s = some (.lst (stV qs f))) (hw : KQ.Within qs f) (hc : ∀ r ∈ qs, c r.1 = r.2.1) : EvL (tCall spBal [] E0 tr) σ H (baV qs c f) := fun H1 e Q q => by
  refine h H1 e _ fun H2 e2 => ?_
  rw [List.append_nil]
  exact ⟨a, s, qs, c, f, rfl, hq.tx (TX.of (e.trans e2)), g, (e.trans e2) _ _ hs, hw, hc, fun l H' hl e3 hl' => q l H' (fresh_back e2 hl) (e2.trans e3) hl'⟩
theorem eu_end {a : Addr} {qs : List (Row Str)} (h : EvA tr σ H [.ref a]) (hq : QH H a qs) (l40 : qs.length ≤ 40) : EvU (tCall spEnd [] E0 tr) σ H (qs.map fun r => V.int (r.2.2.length : Nat)) := fun H1 e Q q => by
  refine h H1 e _ fun H2 e2 => ?_
  rw [List.append_nil]
  exact ⟨a, qs, rfl, hq.tx (TX.of (e.trans e2)), l40, fun s H' e3 hs hs' => q s H' (fresh_back e2 hs) (e2.trans e3) hs'⟩
theorem el_listU {xs : List V} (h : EvU te σ H xs) : EvL (tCB (rListS' K) (tCons te tNil)) σ H xs := fun H1 e Q q => by
  refine h H1 e _ fun p H2 hp0 e2 hp => ⟨p, xs, rfl, Or.inr (st_of hp), fun l hl => ?_⟩
  exact q l _ (fresh_back e2 hl) (e2.trans (Ex.new hl)) upd_same
/-- i, j = two new lists -/
theorem q_parLL {i j : Nat} {xs ys : List V} (h1 : EvL ta σ H xs) (h2 : EvL tb σ H ys) (k : ∀ d l H1, H d = none → H l = none → d ≠ l → Ex H H1 → H1 d = some (.lst xs) → H1 l = some (.lst ys) → tz D ((σ.set i (some (.ref d))).set j (some (.ref l))) H1) :
    tSeq (tPar i j (tCons ta (tCons tb tNil))) tz D σ H := h1 H (Ex.refl H) _ fun d H1 hd0 e1 hd => h2 H1 e1 _ fun l H2 hl0 e2 hl => ⟨.ref d, .ref l, rfl, k d l H2 hd0 (fresh_back e1 hl0) (ne_of_none hd hl0) (e1.trans e2) (e2 _ _ hd) hl⟩
end
theorem map_at' {α β : Type} {g : α → β} {l : List α} {i : Nat} {y : β} (h : (l.map g)[i]? = some y) : ∃ x, l[i]? = some x ∧ y = g x := by
  rw [List.getElem?_map] at h
  cases e : l[i]? with
  | none =>
    rw [e] at h
    cases h
  | some x =>
    rw [e] at h
    exact ⟨x, rfl, (Option.some.inj h).symm⟩
theorem Sts.upd {H : Hp} {a s b l : Addr} {qs : List (Row Str)} {c : Str → Int} {f : Str → Nat} {xs : List V} {o : HO} (h : Sts H a s b qs c f) (hl : H l = some (.lst xs)) (n1 : l ≠ s) (n2 : l ≠ b) : Sts (upd H l o) a s b qs c f :=
  ⟨h.q.tx (TX.updL hl), h.l40, h.nd, by rw [upd_ne n1.symm]; exact h.st, by rw [upd_ne n2.symm]; exact h.ba, h.ne⟩
section
variable {K : PySem.W.Frag} {σ : L2.St} {H H' : Hp} {ta tb : TE} {tr : TA} {D : Ends} {tz : TS}
theorem q_dropC {sp : Sp} {vs : List V} (h : EvA tr σ H vs) (k : ∀ H1, Ex H H1 → sp vs H1 (fun _ H2 => tz D σ H2) E0) : tSeq (tDrop (tCall sp [] E0 tr)) tz D σ H := h H (Ex.refl H) _ fun H1 e => by
  rw [List.append_nil]
  exact k H1 e
theorem eu_tupQ {xs : List V} (ha : EvQL K ta σ H xs) : EvU (tCB (rTupS K) (tCons ta tNil)) σ H xs := fun H1 e Q q => by
  refine ha H1 e _ fun p H2 e2 hp => ?_
  exact ⟨p, xs, rfl, Or.inl ⟨hp, fun l hl => q l _ (fresh_back e2 hl) (e2.trans (Ex.new hl)) upd_same⟩⟩
theorem gv_tupUU {xs ys : List V} (h1 : EvU ta σ H xs) (h2 : EvU tb σ H ys) : Gv (tTup (tCons ta (tCons tb tNil))) σ H (fun v H2 => ∃ p q1 q2, v = .ref p ∧ H2 p = some (.tup [.ref q1, .ref q2]) ∧ H2 q1 = some (.tup xs) ∧ H2 q2 = some (.tup ys)) := fun H1 e Q q => by
  refine h1 H1 e _ fun q1 H2 _ e2 hq1 => h2 H2 (e.trans e2) _ fun q2 H3 _ e3 hq2 => ⟨by show 2 ≤ sizeLine; decide, fun p hp => ?_⟩
  have e4 : Ex H3 (upd H3 p (.tup [.ref q1, .ref q2])) := Ex.new hp
  exact q _ _ ((e2.trans e3).trans e4) ⟨p, q1, q2, rfl, upd_same, (e3.trans e4) _ _ hq1, e4 _ _ hq2⟩
end
/-- the two tuples that a walk returns: names, the state -/
def WalkH (H : Hp) (p : Addr) (qs : List (Row Str)) (f : Str → Nat) : Prop := ∃ q1 q2 ws, H p = some (.tup [.ref q1, .ref q2]) ∧ H q1 = some (.tup ws) ∧ StH H q2 qs f
def spRet : Sp := fun vs H Q _ => ∃ a qs, vs = [.ref a] ∧ QH H a qs ∧ GoodQ qs ∧ ∀ f p H', KQ.Great qs (cashF qs) f → Ex H H' → WalkH H' p qs f → Q (.ref p) H'
section
variable {P : Program} {w : World} {K : PySem.W.Frag} {mg : Str → Option Value} {base : Heap} {f : Addr} {fd : FuncData} {aK : Addr} {tk : Tk}
theorem ok_retreat_walk (F : Fun K "retreat_walk" "retreat_walk" s_retreat_walk f fd) (T : Tx K mg aK tk) (c_number_of : Cal P w K mg base CX0 1 "number_of" ["queues"] spNum) (c_end_of_all : Cal P w K mg base CX0 1 "end_of_all" ["queues"] spEnd)
    (c_balance_list : Cal P w K mg base CX0 2 "balance_list" ["queues", "state"] spBal) (c_takes_back : Cal P w K mg base CX0 1 "takes_back" ["queues", "numbers", "state", "balances", "at"] spBack) : FnOk P w K mg base CX0 3 f fd ["queues"] spRet := by
  refine F.ok sc_retreat_walk (fun vs H Q E h => ?_) (fun cdv A outer s H vs Q E hr h => ?_)
  · obtain ⟨a, qs, rfl, _⟩ := h
    rfl
  · obtain ⟨a, qs, rfl, hq, g, k⟩ := h
    have hu := hu_of hr
    refine ⟨_, (pss_cons (ps_par (i := 1) (j := 2) (by rfl) sc_retreat_walk.nd rfl rfl (by decide) rfl rfl (pa_cons (pe_cl c_number_of hr (by decide) (by rfl) (pa_cons (pv 0) pa_nil)) (pa_cons (pe_callTy (crList (K := K) rfl) (by rfl) T.list (by decide +kernel) (pa_cons (pe_cl c_end_of_all hr (by decide) (by rfl) (pa_cons (pv 0) pa_nil)) pa_nil)) pa_nil)) (by rfl))
      (pss_cons (ps_par (i := 3) (j := 4) (by rfl) sc_retreat_walk.nd rfl rfl (by decide) rfl rfl (pa_cons (pe_cl c_balance_list hr (by decide) (by rfl) (pa_cons (pv 0) (pa_cons (pv 2) pa_nil))) (pa_cons (pe_lst pa_nil) pa_nil)) (by rfl))
      (pss_cons (ps_while PassesOwn.never (pt_cmpR op_lt (pe_callB (crMin (K := K) rfl rfl) (by rfl) T.min (by decide +kernel) (pa_cons (pv 3) pa_nil)) pe_int (nomark _))
        (pss_cons (ps_set (i := 5) sc_retreat_walk.nd rfl (Or.inl rfl) (pe_bm PySem.F.plainAttrs_list PySem.F.slot_list_index PySem.F.type_list_index (mtIndex (K := K) rfl) (pv 3) (pa_cons (pe_callB (crMin (K := K) rfl rfl) (by rfl) T.min (by decide +kernel) (pa_cons (pv 3) pa_nil)) pa_nil)))
      (pss_cons (ps_expr (pe_cl c_takes_back hr (by decide) (by rfl) (pa_cons (pv 0) (pa_cons (pv 1) (pa_cons (pv 2) (pa_cons (pv 3) (pa_cons (pv 5) pa_nil)))))))
      (pss_one (ps_expr (pe_bm PySem.F.plainAttrs_list PySem.F.slot_list_append PySem.F.type_list_append mt_append (pv 4) (pa_cons (pe_ix (ixT (K := K) rfl) (pe_ix (ixT (K := K) rfl) (pe_ix (ixT (K := K) rfl) (pv 0) pe_int (fun _ _ => rfl)) (pv 5) (fun _ _ => rfl)) pe_int (fun _ _ => rfl)) pa_nil)))))))
      (pss_one (ps_ret (pe_tup (pa_cons (pe_callTy (crTup (K := K) rfl) (by rfl) T.tuple (by decide +kernel) (pa_cons (pv 4) pa_nil)) (pa_cons (pe_callTy (crTup (K := K) rfl) (by rfl) T.tuple (by decide +kernel) (pa_cons (pv 2) pa_nil)) pa_nil)))))))), ?_⟩
    obtain ⟨hb0, ha, ps, hb0', hpr⟩ := id hq
    have nd := asc_nodup g.asc
    have l1 := g.l1
    let f0 : Str → Nat := KQ.lenOf qs
    have hf0 : ∀ r ∈ qs, f0 r.1 = r.2.2.length := fun r hr => KQ.lenOf_at nd hr
    have e0 : (qs.map fun r => V.int (r.2.2.length : Nat)) = stV qs f0 := by
      unfold stV
      exact List.map_congr_left fun r hr => by rw [hf0 r hr]
    have we := el_listU (K := K) (eu_end (σ := [some (.ref a), none, none, none, none, none]) (tr := tCons (tVar 0) tNil) (ea_cons (ev_var rfl) ea_nil) hq g.l40)
    rw [e0] at we
    have ab0 := KQ.above_all qs (cashF qs) hf0
    refine q_parDL (ed_num (ea_cons (ev_var rfl) ea_nil) hq g) we fun d st H1 hd0 hs0 hds e1 hd hst => ?_
    refine q_parLL (el_bal (c := cashF qs) (σ := [some (.ref a), some (.ref d), some (.ref st), none, none, none]) (ea_cons (ev_var rfl) (ea_cons (ev_var rfl) ea_nil)) (hq.tx (TX.of e1)) g hst ab0.1 fun r hr => cashF_at nd hr) (el_lst ea_nil (by decide)) fun ba nm H2 hb2 hn0 hbn e2 hba hnm => ?_
    have e12 := e1.trans e2
    have nsb : st ≠ ba := ne_of_none hst hb2
    have nsn : st ≠ nm := ne_of_none hst hn0
    have pos := g.good
    refine q_while (fun m σ' H' => ∃ ff ws y5, σ' = [some (.ref a), some (.ref d), some (.ref st), some (.ref ba), some (.ref nm), y5] ∧ m = total qs ff ∧ KQ.Above qs (cashF qs) ff ∧ Ex H H' ∧ Sts H' a st ba qs (cashF qs) ff ∧ H' d = some (.dK (numK qs)) ∧ H' nm = some (.lst ws) ∧ ws.length + m ≤ 2400)
      (total qs f0) ⟨f0, [], none, rfl, rfl, ab0, e12, ⟨hq.tx (TX.of e12), g.l40, nd, e2 _ _ hst, hba, nsb⟩, e2 _ _ hd, hnm, by have := g.total ab0.1; show 0 + _ ≤ 2400; omega⟩ fun m σ' H' hP => ?_
    obtain ⟨ff, ws, y5, rfl, rfl, ab, e, S, hd', hn', hws⟩ := hP
    have eb : baV qs (cashF qs) ff = (qs.map fun r => held qs (cashF qs) ff r).map V.int := by
      unfold baV
      rw [List.map_map]
      rfl
    have hba' := S.ba
    rw [eb] at hba'
    obtain ⟨j, mn, hj, hmin, hfst⟩ := min_of (qs.map fun r => held qs (cashF qs) ff r) (fun z => by
      have := congrArg List.length z
      rw [List.length_map, List.length_nil] at this
      omega)
    obtain ⟨r, hqr, rfl⟩ := map_at' hj
    have hrm := List.mem_of_getElem? hqr
    have emin : ∀ {σ : L2.St} {H3 : Hp}, σ[3]? = some (some (.ref ba)) → Ex H' H3 → Ev (tCB (rMin K) (tCons (tVar 3) tNil)) σ H3 (.int (held qs (cashF qs) ff r)) := fun h3 e3 => ev_min (ev_var h3) (sq_of (e3 _ _ hba')) (List.mem_of_getElem? hj) hmin
    refine ⟨decide (held qs (cashF qs) ff r < 0), et_test (ev_ltV (emin rfl (Ex.refl _)) ev_c), fun hb H3 e3 => ⟨_, fun _ _ h => h, ?_⟩, fun hb H3 e3 => ?_⟩
    · have hneg := of_decide_eq_true hb
      have h0 := KQ.above_pos pos (by rw [cashF_at nd hrm]; exact g.c0 r hrm) hneg
      refine q_asg (σ := [some (.ref a), some (.ref d), some (.ref st), some (.ref ba), some (.ref nm), y5]) (ev_index (ev_var rfl) (sq_of (e3 _ _ hba')) (emin rfl e3) hj hfst) fun H4 e4 => ?_
      have e34 := e3.trans e4
      have S4 := S.mono e34
      have hwr := ab.1 r hrm
      obtain ⟨x, hx⟩ := get_of (l := r.2.2) (i := ff r.1 - 1) rfl (by omega)
      refine q_dropC (σ := [some (.ref a), some (.ref d), some (.ref st), some (.ref ba), some (.ref nm), some (.int (j : Nat))]) (ea_cons (ev_var rfl) (ea_cons (ev_var rfl) (ea_cons (ev_var rfl) (ea_cons (ev_var rfl) (ea_cons (ev_var rfl) ea_nil))))) fun H5 e5 => ?_
      refine ⟨a, d, st, ba, qs, cashF qs, ff, j, r, x, rfl, S4.mono e5, (e34.trans e5) _ _ hd', hqr, h0, hx, (g.pay r hrm).mem x (List.mem_of_getElem? hx), fun H6 x6 S6 => ?_⟩
      have hn6 : H6 nm = some (.lst ws) := x6 _ _ ((e34.trans e5) _ _ hn') nsn.symm hbn.symm
      have hd6 : H6 d = some (.dK (numK qs)) := x6 _ _ ((e34.trans e5) _ _ hd') (ne_of hd' S.st (by intro z; cases z)) (ne_of hd' S.ba (by intro z; cases z))
      have e6 : Ex H H6 := ExD.ex (e.trans (e34.trans e5)) x6 hs0 (fresh_back e1 hb2)
      obtain ⟨p, hp⟩ := get_of (l := ps) (i := j) rfl (by rw [paired_len hpr]; exact (List.getElem?_eq_some_iff.mp hqr).1)
      obtain ⟨q', hrow, _⟩ := paired_at hpr hp hqr
      refine s_app (K := K) (v := .str r.1) hn6 (ev_var rfl) (ev_op (ev_op (ev_houses (K := K) (ev_var rfl) (e6 _ _ ha)) (ev_var rfl) (rv_ixT (st_of (e6 _ _ hb0')) (at_of (j := j) rfl (by rw [List.getElem?_map, hp]; rfl)))) ev_c (rv_ixT (st_of (e6 _ _ hrow)) (at_of (j := 0) rfl rfl))) (by omega) fun H7 e7 => ?_
      have hn7 := e7 _ _ hn6
      have td := total_drop nd hrm h0
      refine ⟨total qs (drop ff r.1), by omega, drop ff r.1, _, _, rfl, rfl, KQ.above_step pos ab hrm hneg, Ex.mut (e6.trans e7) (fresh_back e1 hn0), (S6.mono e7).upd hn7 nsn.symm hbn.symm, ?_, upd_same, ?_⟩
      · rw [upd_ne (ne_of hd6 hn6 (by intro z; cases z))]
        exact e7 _ _ hd6
      · rw [List.length_append, List.length_singleton]
        omega
    · have hge := of_decide_eq_false hb
      have gr : KQ.Great qs (cashF qs) ff := ⟨ab, fun q hq' => by
        have := hmin _ (List.mem_map.mpr ⟨q, hq', rfl⟩)
        omega⟩
      refine s_retG (gv_tupUU (eu_tupQ (K := K) (eql_ev (ev_var rfl) (sq_of (e3 _ _ hn')))) (eu_tupQ (K := K) (eql_ev (ev_var rfl) (sq_of (e3 _ _ S.st))))) fun v H4 e4 hv => ?_
      obtain ⟨p, q1, q2, rfl, h1, h2, h3⟩ := hv
      exact k ff p H4 gr (e.trans (e3.trans e4)) ⟨q1, q2, ws, h1, h2, h3⟩
end
end NQ
namespace NQ
open PySem PySem.Spec PyProof.Rows L2 Evl
open KQ (Row held drop bump_same bump_ne drop_same drop_ne)
def spGre : Sp := fun vs H Q _ => ∃ a qs, vs = [.ref a] ∧ QH H a qs ∧ GoodQ qs ∧ ∀ f s H', KQ.Great qs (cashF qs) f → Ex H H' → StH H' s qs f → Q (.ref s) H'
def spRun : Sp := fun vs H Q _ => ∃ a qs, vs = [.ref a] ∧ QH H a qs ∧ GoodQ qs ∧ ∀ f p H', KQ.Least qs (cashF qs) f → Ex H H' → WalkH H' p qs f → Q (.ref p) H'
def spFin : Sp := fun vs H Q _ => ∃ a qs, vs = [.ref a] ∧ QH H a qs ∧ GoodQ qs ∧ ∀ f s H', KQ.Least qs (cashF qs) f → Ex H H' → StH H' s qs f → Q (.ref s) H'
section
variable {K : PySem.W.Frag} {σ : L2.St} {H H' : Hp} {ta tb te : TE} {tr : TA} {D : Ends} {tz : TS}
/-- [0] * n -/
theorem el_rep {n : Nat} {v : V} (ha : EvL ta σ H [v]) (hb : Ev tb σ H (.int (n : Int))) (hn : n ≤ 1000) : EvL (tOp rRep ta tb) σ H (List.replicate n v) := fun H1 e Q q => by
  refine ha H1 e _ fun p H2 _ e2 hp => hb H2 (e.trans e2) _ fun H3 e3 => ?_
  refine ⟨p, n, [v], rfl, rfl, e3 _ _ hp, by omega, by omega, ?_, fun l hl => ?_⟩
  · rw [List.length_singleton, Nat.one_mul]
    exact sz_of (by omega)
  · have e0 : (List.replicate (n : Int).toNat [v]).flatten = List.replicate n v := by
      rw [show (n : Int).toNat = n by omega]
      clear q hp hl hn hb
      induction n with
      | zero => rfl
      | succ n ih => rw [List.replicate_succ, List.flatten_cons, ih]; rfl
    rw [e0]
    exact q l _ (fresh_back (e2.trans e3) hl) ((e2.trans e3).trans (Ex.new hl)) upd_same
theorem el_paying {a s b : Addr} {qs : List (Row Str)} {c : Str → Int} {f : Str → Nat} (h : EvA tr σ H [.ref a, .ref s, .ref b]) (S : Sts H a s b qs c f) : EvL (tCall spPaying [] E0 tr) σ H (ixV (payIx qs c f)) := fun H1 e Q q => by
  refine h H1 e _ fun H2 e2 => ?_
  rw [List.append_nil]
  exact ⟨a, s, b, qs, c, f, rfl, S.mono (e.trans e2), fun l H' hl e3 hl' => q l H' (fresh_back e2 hl) (e2.trans e3) hl'⟩
theorem gv_ret {a : Addr} {qs : List (Row Str)} (h : EvA tr σ H [.ref a]) (hq : QH H a qs) (g : GoodQ qs) : Gv (tCall spRet [] E0 tr) σ H (fun v H2 => ∃ f p, v = .ref p ∧ KQ.Great qs (cashF qs) f ∧ WalkH H2 p qs f) := fun H1 e Q q => by
  refine h H1 e _ fun H2 e2 => ?_
  rw [List.append_nil]
  exact ⟨a, qs, rfl, hq.tx (TX.of (e.trans e2)), g, fun f p H' gr e3 hw => q _ H' (e2.trans e3) ⟨f, p, rfl, gr, hw⟩⟩
theorem gv_run {a : Addr} {qs : List (Row Str)} (h : EvA tr σ H [.ref a]) (hq : QH H a qs) (g : GoodQ qs) : Gv (tCall spRun [] E0 tr) σ H (fun v H2 => ∃ f p, v = .ref p ∧ KQ.Least qs (cashF qs) f ∧ WalkH H2 p qs f) := fun H1 e Q q => by
  refine h H1 e _ fun H2 e2 => ?_
  rw [List.append_nil]
  exact ⟨a, qs, rfl, hq.tx (TX.of (e.trans e2)), g, fun f p H' gr e3 hw => q _ H' (e2.trans e3) ⟨f, p, rfl, gr, hw⟩⟩
/-- te[1] of the two that a walk returns -/
theorem gv_snd {qs : List (Row Str)} {R : (Str → Nat) → Prop} (h : Gv te σ H (fun v H2 => ∃ f p, v = .ref p ∧ R f ∧ WalkH H2 p qs f)) : Gv (tOp (rIxT K) te (tC (.int 1))) σ H (fun v H2 => ∃ f s, v = .ref s ∧ R f ∧ StH H2 s qs f) := fun H1 e Q q => by
  refine h H1 e _ fun v H2 e2 hv => ?_
  obtain ⟨f, p, rfl, hR, q1, q2, ws, h1, h2, h3⟩ := hv
  exact ⟨p, [.ref q1, .ref q2], 1, .ref q2, rfl, rfl, st_of h1, at_of (j := 1) rfl rfl, q _ H2 e2 ⟨f, q2, rfl, hR, h3⟩⟩
end
section
variable {P : Program} {w : World} {K : PySem.W.Frag} {mg : Str → Option Value} {base : Heap} {f : Addr} {fd : FuncData} {aK : Addr} {tk : Tk}
theorem ok_greatest_feasible (F : Fun K "greatest_feasible" "greatest_feasible" s_greatest_feasible f fd) (T : Tx K mg aK tk) (c_check_queues : Cal P w K mg base CX0 4 "check_queues" ["queues"] (spN PreQ)) (c_retreat_walk : Cal P w K mg base CX0 3 "retreat_walk" ["queues"] spRet) :
    FnOk P w K mg base CX0 5 f fd ["queues"] spGre := by
  refine F.ok sc_greatest_feasible (fun vs H Q E h => ?_) (fun cdv A outer s H vs Q E hr h => ?_)
  · obtain ⟨a, qs, rfl, _⟩ := h
    rfl
  · obtain ⟨a, qs, rfl, hq, g, k⟩ := h
    have hu := hu_of hr
    refine ⟨_, (pss_cons (ps_expr (pe_cl c_check_queues hr (by decide) (by rfl) (pa_cons (pv 0) pa_nil)))
      (pss_one (ps_ret (pe_ix (ixT (K := K) rfl) (pe_cl c_retreat_walk hr (by decide) (by rfl) (pa_cons (pv 0) pa_nil)) pe_int (fun _ _ => rfl))))), ?_⟩
    refine q_drop (v := .non) (ev_callN (ea_cons (ev_var rfl) ea_nil) fun H1 e1 => ⟨a, qs, rfl, hq.tx (TX.of e1), g⟩) fun H1 e1 => ?_
    refine s_retG (gv_snd (K := K) (gv_ret (ea_cons (ev_var rfl) ea_nil) (hq.tx (TX.of e1)) g)) fun v H2 e2 hv => ?_
    obtain ⟨ff, s, rfl, gr, hs⟩ := hv
    exact k ff s H2 gr (e1.trans e2) hs
theorem ok_final_state (F : Fun K "final_state" "final_state" s_final_state f fd) (T : Tx K mg aK tk) (c_check_queues : Cal P w K mg base CX0 4 "check_queues" ["queues"] (spN PreQ)) (c_run_walk : Cal P w K mg base CX0 3 "run_walk" ["queues"] spRun) :
    FnOk P w K mg base CX0 5 f fd ["queues"] spFin := by
  refine F.ok sc_final_state (fun vs H Q E h => ?_) (fun cdv A outer s H vs Q E hr h => ?_)
  · obtain ⟨a, qs, rfl, _⟩ := h
    rfl
  · obtain ⟨a, qs, rfl, hq, g, k⟩ := h
    have hu := hu_of hr
    refine ⟨_, (pss_cons (ps_expr (pe_cl c_check_queues hr (by decide) (by rfl) (pa_cons (pv 0) pa_nil)))
      (pss_one (ps_ret (pe_ix (ixT (K := K) rfl) (pe_cl c_run_walk hr (by decide) (by rfl) (pa_cons (pv 0) pa_nil)) pe_int (fun _ _ => rfl))))), ?_⟩
    refine q_drop (v := .non) (ev_callN (ea_cons (ev_var rfl) ea_nil) fun H1 e1 => ⟨a, qs, rfl, hq.tx (TX.of e1), g⟩) fun H1 e1 => ?_
    refine s_retG (gv_snd (K := K) (gv_run (ea_cons (ev_var rfl) ea_nil) (hq.tx (TX.of e1)) g)) fun v H2 e2 hv => ?_
    obtain ⟨ff, s, rfl, gr, hs⟩ := hv
    exact k ff s H2 gr (e1.trans e2) hs
end
end NQ
namespace NQ
open PySem PySem.Spec PyProof.Rows L2 Evl
open KQ (Row held drop bump_same bump_ne drop_same drop_ne)
theorem ixV_ints (is : List Nat) : ixV is = (is.map fun i => ((i : Nat) : Int)).map V.int := by
  unfold ixV
  rw [List.map_map]
  rfl
theorem payIx_none {qs : List (Row Str)} {c : Str → Int} {f : Str → Nat} (h : payIx qs c f = []) : KQ.Stable qs c f := fun r hr x hx => by
  obtain ⟨i, hi, e⟩ := List.mem_iff_getElem.mp hr
  have hq : qs[i]? = some r := by rw [List.getElem?_eq_getElem hi, e]
  have h1 : ¬ (canPay qs c f r = true) := fun hc => by
    have : i ∈ payIx qs c f := List.mem_filter.mpr ⟨List.mem_range.mpr hi, by rw [getD_of hq]; exact hc⟩
    rw [h] at this
    cases this
  unfold canPay at h1
  rw [hx] at h1
  have := of_decide_eq_false (Bool.not_eq_true _ ▸ h1 : decide (x.2 ≤ held qs c f r) = false)
  omega
theorem payIx_at {qs : List (Row Str)} {c : Str → Int} {f : Str → Nat} {k i : Nat} (h : (payIx qs c f)[k]? = some i) : ∃ r, qs[i]? = some r ∧ canPay qs c f r = true := by
  have hm := List.mem_filter.mp (List.mem_of_getElem? h)
  have hi := List.mem_range.mp hm.1
  obtain ⟨r, hr⟩ := get_of (l := qs) (i := i) rfl hi
  exact ⟨r, hr, by rw [← getD_of (d := rowD) hr]; exact hm.2⟩
theorem canPay_at {qs : List (Row Str)} {c : Str → Int} {f : Str → Nat} {r : Row Str} (h : canPay qs c f r = true) : ∃ x, r.2.2[f r.1]? = some x ∧ x.2 ≤ held qs c f r := by
  unfold canPay at h
  cases hx : r.2.2[f r.1]? with
  | none =>
    rw [hx] at h
    cases h
  | some x =>
    rw [hx] at h
    exact ⟨x, rfl, of_decide_eq_true h⟩
section
variable {P : Program} {w : World} {K : PySem.W.Frag} {mg : Str → Option Value} {base : Heap} {f : Addr} {fd : FuncData} {aK : Addr} {tk : Tk}
theorem ok_run_walk (F : Fun K "run_walk" "run_walk" s_run_walk f fd) (T : Tx K mg aK tk) (c_number_of : Cal P w K mg base CX0 1 "number_of" ["queues"] spNum) (c_balance_list : Cal P w K mg base CX0 2 "balance_list" ["queues", "state"] spBal)
    (c_paying : Cal P w K mg base CX0 1 "paying" ["queues", "state", "balances"] spPaying) (c_pays_next : Cal P w K mg base CX0 1 "pays_next" ["queues", "numbers", "state", "balances", "at"] spPay) : FnOk P w K mg base CX0 3 f fd ["queues"] spRun := by
  refine F.ok sc_run_walk (fun vs H Q E h => ?_) (fun cdv A outer s H vs Q E hr h => ?_)
  · obtain ⟨a, qs, rfl, _⟩ := h
    rfl
  · obtain ⟨a, qs, rfl, hq, g, k⟩ := h
    have hu := hu_of hr
    refine ⟨_, (pss_cons (ps_par (i := 1) (j := 2) (by rfl) sc_run_walk.nd rfl rfl (by decide) rfl rfl (pa_cons (pe_cl c_number_of hr (by decide) (by rfl) (pa_cons (pv 0) pa_nil)) (pa_cons (pe_op op_rep (pe_lst (pa_cons pe_int pa_nil)) (pe_callB (crLen (K := K) rfl) (by rfl) T.len (by decide +kernel) (pa_cons (pe_ix (ixT (K := K) rfl) (pv 0) pe_int (fun _ _ => rfl)) pa_nil))) pa_nil)) (by rfl))
      (pss_cons (ps_par (i := 3) (j := 4) (by rfl) sc_run_walk.nd rfl rfl (by decide) rfl rfl (pa_cons (pe_cl c_balance_list hr (by decide) (by rfl) (pa_cons (pv 0) (pa_cons (pv 2) pa_nil))) (pa_cons (pe_lst pa_nil) pa_nil)) (by rfl))
      (pss_cons (ps_set (i := 5) sc_run_walk.nd rfl (Or.inl rfl) (pe_cl c_paying hr (by decide) (by rfl) (pa_cons (pv 0) (pa_cons (pv 2) (pa_cons (pv 3) pa_nil)))))
      (pss_cons (ps_while PassesOwn.never (pt_cmpR (opNeD (K := K) rfl hr.units) (pv 5) (pe_lst pa_nil) (nomark _))
        (pss_cons (ps_for PassesOwn.never rfl (piLst (K := K) rfl (pv 5)) (pg_name (i := 6) sc_run_walk.nd rfl (Or.inl rfl))
        (pss_cons (ps_set (i := 7) sc_run_walk.nd rfl (Or.inl rfl) (pe_ix (ixT (K := K) rfl) (pe_ix (ixT (K := K) rfl) (pe_ix (ixT (K := K) rfl) (pv 0) pe_int (fun _ _ => rfl)) (pv 6) (fun _ _ => rfl)) pe_int (fun _ _ => rfl)))
      (pss_one (ps_while PassesOwn.never (PW.pt (pw_and (pt_cmpR op_lt (pe_ix (ixL (K := K) rfl) (pv 2) (pv 6) (fun _ _ => rfl)) (pe_callB (crLen (K := K) rfl) (by rfl) T.len (by decide +kernel) (pa_cons (pv 7) pa_nil)) (nomark _)) (pw_and1 (pt_cmpR op_ge (pe_ix (ixL (K := K) rfl) (pv 3) (pv 6) (fun _ _ => rfl)) (pe_ix (ixT (K := K) rfl) (pe_ix (ixT (K := K) rfl) (pv 7) (pe_ix (ixL (K := K) rfl) (pv 2) (pv 6) (fun _ _ => rfl)) (fun _ _ => rfl)) pe_int (fun _ _ => rfl)) (nomark _)))))
        (pss_cons (ps_expr (pe_cl c_pays_next hr (by decide) (by rfl) (pa_cons (pv 0) (pa_cons (pv 1) (pa_cons (pv 2) (pa_cons (pv 3) (pa_cons (pv 6) pa_nil)))))))
      (pss_one (ps_expr (pe_bm PySem.F.plainAttrs_list PySem.F.slot_list_append PySem.F.type_list_append mt_append (pv 4) (pa_cons (pe_ix (ixT (K := K) rfl) (pe_ix (ixT (K := K) rfl) (pe_ix (ixT (K := K) rfl) (pv 0) pe_int (fun _ _ => rfl)) (pv 6) (fun _ _ => rfl)) pe_int (fun _ _ => rfl)) pa_nil)))))))))
      (pss_one (ps_set (i := 5) sc_run_walk.nd rfl (Or.inl rfl) (pe_cl c_paying hr (by decide) (by rfl) (pa_cons (pv 0) (pa_cons (pv 2) (pa_cons (pv 3) pa_nil))))))))
      (pss_one (ps_ret (pe_tup (pa_cons (pe_callTy (crTup (K := K) rfl) (by rfl) T.tuple (by decide +kernel) (pa_cons (pv 4) pa_nil)) (pa_cons (pe_callTy (crTup (K := K) rfl) (by rfl) T.tuple (by decide +kernel) (pa_cons (pv 2) pa_nil)) pa_nil))))))))), ?_⟩
    obtain ⟨hb0, ha, ps, hb0', hpr⟩ := id hq
    have nd := asc_nodup g.asc
    have l1 := g.l1
    have l40 := g.l40
    have hlen : (ps.map V.ref).length = qs.length := by rw [List.length_map, paired_len hpr]
    have e0 : List.replicate qs.length (V.int 0) = stV qs (fun _ => 0) := by
      unfold stV
      rw [List.map_const']
      rfl
    have we := el_rep (σ := [some (.ref a), none, none, none, none, none, none, none]) (H := H) (n := (ps.map V.ref).length) (ta := tLst (tCons (tC (.int 0)) tNil)) (el_lst (ea_cons (ev_c (v := .int 0)) ea_nil) (by show 1 ≤ 100000; omega)) (ev_lenT (K := K) (ev_houses (K := K) (ev_var (i := 0) rfl) ha) (st_of hb0')) (by omega)
    rw [hlen, e0] at we
    have be0 := KQ.below_zero qs (cashF qs)
    refine q_parDL (ed_num (ea_cons (ev_var rfl) ea_nil) hq g) we fun d st H1 hd0 hs0 hds e1 hd hst => ?_
    refine q_parLL (el_bal (c := cashF qs) (σ := [some (.ref a), some (.ref d), some (.ref st), none, none, none, none, none]) (ea_cons (ev_var rfl) (ea_cons (ev_var rfl) ea_nil)) (hq.tx (TX.of e1)) g hst be0.1 fun r hr => cashF_at nd hr) (el_lst ea_nil (by decide)) fun ba nm H2 hb2 hn0 hbn e2 hba hnm => ?_
    have e12 := e1.trans e2
    have nsb : st ≠ ba := ne_of_none hst hb2
    have nsn : st ≠ nm := ne_of_none hst hn0
    have S0 : Sts H2 a st ba qs (cashF qs) (fun _ => 0) := ⟨hq.tx (TX.of e12), g.l40, nd, e2 _ _ hst, hba, nsb⟩
    -- what holds all along
    let R0 : (Str → Nat) → Hp → Prop := fun ff H' => Ex H H' ∧ Sts H' a st ba qs (cashF qs) ff ∧ H' d = some (.dK (numK qs)) ∧ KQ.Below qs (cashF qs) ff ∧ ∃ ws, H' nm = some (.lst ws) ∧ ws.length ≤ total qs ff
    have R0m : ∀ {ff H' H''}, R0 ff H' → Ex H' H'' → R0 ff H'' := fun {ff H' H''} h e => by
      obtain ⟨a1, a2, a3, a4, ws, a5, a6⟩ := h
      exact ⟨a1.trans e, a2.mono e, e _ _ a3, a4, ws, e _ _ a5, a6⟩
    refine q_asgL (σ := [some (.ref a), some (.ref d), some (.ref st), some (.ref ba), some (.ref nm), none, none, none]) (el_paying (ea_cons (ev_var rfl) (ea_cons (ev_var rfl) (ea_cons (ev_var rfl) ea_nil))) S0) fun ln0 H3 hl0 e3 hl => ?_
    refine q_while (fun m σ' H' => ∃ ff ln y6 y7, σ' = [some (.ref a), some (.ref d), some (.ref st), some (.ref ba), some (.ref nm), some (.ref ln), y6, y7] ∧ m = 2400 - total qs ff ∧ R0 ff H' ∧ H' ln = some (.lst (ixV (payIx qs (cashF qs) ff))) ∧ ln ≠ st ∧ ln ≠ ba ∧ ln ≠ nm)
      (2400 - total qs fun _ => 0) ⟨_, ln0, none, none, rfl, rfl, ⟨e12.trans e3, S0.mono e3, e3 _ _ (e2 _ _ hd), be0, [], e3 _ _ hnm, Nat.zero_le _⟩, hl, (ne_of_none S0.st hl0).symm, (ne_of_none S0.ba hl0).symm, (ne_of_none hnm hl0).symm⟩ fun m σ' H' hP => ?_
    obtain ⟨ff, ln, y6, y7, rfl, rfl, hR, hln, n1, n2, n3⟩ := hP
    have htot := g.total hR.2.2.2.1.1
    have wne := ev_neNil (K := K) (σ := [some (.ref a), some (.ref d), some (.ref st), some (.ref ba), some (.ref nm), some (.ref ln), y6, y7]) (H := H') (ta := tVar 5) (xs := ixV (payIx qs (cashF qs) ff)) (ds := ((payIx qs (cashF qs) ff).map fun i => ((i : Nat) : Int)).map PyData.int) (ev_var rfl) hln (by rw [ixV_ints]; exact dp_ints _ _) (fun H1 _ => by rw [ixV_ints]; exact dp_ints _ _) (shaped_ints _)
    refine ⟨_, et_test wne, fun hb H4 e4 => ⟨_, fun _ _ h => h, ?_⟩, fun hb H4 e4 => ?_⟩
    · -- for at in line
      have hne : payIx qs (cashF qs) ff ≠ [] := fun z => by
        rw [z] at hb
        cases hb
      refine q_forL (K := K) (σ := [some (.ref a), some (.ref d), some (.ref st), some (.ref ba), some (.ref nm), some (.ref ln), y6, y7]) (xs := ixV (payIx qs (cashF qs) ff)) (ev_var rfl) (sq_of (e4 _ _ hln))
        (fun i σ' H' => ∃ f1 y6 y7, σ' = [some (.ref a), some (.ref d), some (.ref st), some (.ref ba), some (.ref nm), some (.ref ln), y6, y7] ∧ R0 f1 H' ∧ H' ln = some (.lst (ixV (payIx qs (cashF qs) ff))) ∧ (i = 0 → f1 = ff) ∧ (i ≠ 0 → total qs ff < total qs f1))
        (fun H5 e5 => ⟨ff, y6, y7, rfl, R0m hR (e4.trans e5), (e4.trans e5) _ _ hln, fun _ => rfl, fun z => absurd rfl z⟩) (fun i σ' H' _ hP => ?_) (fun i x σ' H5 hx hP => ?_) (fun σ' H5 hP => ?_)
      · obtain ⟨_, _, _, _, _, h, _⟩ := hP
        exact sq_of h
      · obtain ⟨f1, z6, z7, rfl, hR1, hln1, hz, hnz⟩ := hP
        obtain ⟨at', hat, rfl⟩ := map_at hx
        obtain ⟨r, hqr, hcan⟩ := payIx_at hat
        have hrm := List.mem_of_getElem? hqr
        obtain ⟨p, hp⟩ := get_of (l := ps) (i := at') rfl (by rw [paired_len hpr]; exact (List.getElem?_eq_some_iff.mp hqr).1)
        obtain ⟨q', hrow, ps', hp', hpr'⟩ := paired_at hpr hp hqr
        -- payments = queues[1][at][2]
        refine q_asg (σ := [some (.ref a), some (.ref d), some (.ref st), some (.ref ba), some (.ref nm), some (.ref ln), some (.int (at' : Nat)), z7]) (v := .ref q') (ev_op (ev_op (ev_houses (K := K) (ev_var rfl) (hR1.1 _ _ ha)) (ev_var rfl) (rv_ixT (st_of (hR1.1 _ _ hb0')) (at_of (j := at') rfl (by rw [List.getElem?_map, hp]; rfl)))) ev_c (rv_ixT (st_of (hR1.1 _ _ hrow)) (at_of (j := 2) rfl rfl))) fun H6 e6 => ?_
        refine s_while (fun m σ' H' => ∃ f2, σ' = [some (.ref a), some (.ref d), some (.ref st), some (.ref ba), some (.ref nm), some (.ref ln), some (.int (at' : Nat)), some (.ref q')] ∧ m = 2400 - total qs f2 ∧ R0 f2 H' ∧ H' ln = some (.lst (ixV (payIx qs (cashF qs) ff))) ∧ (f2 = f1 ∨ total qs f1 < total qs f2))
          (2400 - total qs f1) ⟨f1, rfl, rfl, R0m hR1 e6, e6 _ _ hln1, Or.inl rfl⟩ fun m σ' H7 hP => ?_
        obtain ⟨f2, rfl, rfl, hR2, hln2, hor⟩ := hP
        obtain ⟨eH, S2, hd2, be2, ws, hn2, hws⟩ := id hR2
        have htot2 := g.total be2.1
        have est : Ev (tOp (rIxL K) (tVar 2) (tVar 6)) [some (.ref a), some (.ref d), some (.ref st), some (.ref ba), some (.ref nm), some (.ref ln), some (.int (at' : Nat)), some (.ref q')] H7 (.int (f2 r.1 : Nat)) := ev_op (ev_var rfl) (ev_var rfl) (rv_ixL (sq_of S2.st) (at_of (j := at') rfl (stV_at hqr)))
        refine ⟨canPay qs (cashF qs) f2 r, ?_, fun hb2' H8 e8 => ⟨_, fun _ _ h => h, ?_⟩, fun hb2' H8 e8 => ?_⟩
        · refine et_is (et_and (et_test (ev_ltV est (ev_lenT (ev_var rfl) (st_of (eH _ _ hp'))))) (b := canPay qs (cashF qs) f2 r) fun hlt => ?_) ?_
          · rw [List.length_map, paired_len hpr', decide_eq_true_eq] at hlt
            obtain ⟨x, hx2⟩ := get_of (l := r.2.2) (i := f2 r.1) rfl (by omega)
            obtain ⟨px, hpx⟩ := get_of (l := ps') (i := f2 r.1) (paired_len hpr') (by omega)
            have hxp : H px = some (.tup [.str x.1, .int x.2]) := paired_at hpr' hpx hx2
            refine et_is (et_test (ev_geV (i := held qs (cashF qs) f2 r) (j := x.2) (ev_op (ev_var rfl) (ev_var rfl) (rv_ixL (sq_of S2.ba) (at_of (j := at') rfl (baV_at hqr)))) (ev_op (ev_op (ev_var rfl) est (rv_ixT (st_of (eH _ _ hp')) (at_of (j := f2 r.1) rfl (by rw [List.getElem?_map, hpx]; rfl)))) ev_c (rv_ixT (st_of (eH _ _ hxp)) (at_of (j := 1) rfl rfl))))) ?_
            unfold canPay
            rw [hx2]
          · rw [List.length_map, paired_len hpr']
            unfold canPay
            cases hx2 : r.2.2[f2 r.1]? with
            | none => simp
            | some x =>
              have := (List.getElem?_eq_some_iff.mp hx2).1
              rw [decide_eq_true (by omega), Bool.true_and]
        · obtain ⟨x, hx2, hpay⟩ := canPay_at hb2'
          refine q_dropC (σ := [some (.ref a), some (.ref d), some (.ref st), some (.ref ba), some (.ref nm), some (.ref ln), some (.int (at' : Nat)), some (.ref q')]) (ea_cons (ev_var rfl) (ea_cons (ev_var rfl) (ea_cons (ev_var rfl) (ea_cons (ev_var rfl) (ea_cons (ev_var rfl) ea_nil))))) fun H9 e9 => ?_
          have e79 := e8.trans e9
          refine ⟨a, d, st, ba, qs, cashF qs, f2, at', r, x, rfl, S2.mono e79, e79 _ _ hd2, hqr, hx2, (g.pay r hrm).mem x (List.mem_of_getElem? hx2), fun H10 x10 S10 => ?_⟩
          have hn10 : H10 nm = some (.lst ws) := x10 _ _ (e79 _ _ hn2) nsn.symm hbn.symm
          have hl10 : H10 ln = some (.lst (ixV (payIx qs (cashF qs) ff))) := x10 _ _ (e79 _ _ hln2) n1 n2
          have hd10 : H10 d = some (.dK (numK qs)) := x10 _ _ (e79 _ _ hd2) (ne_of hd2 S2.st (by intro z; cases z)) (ne_of hd2 S2.ba (by intro z; cases z))
          have e10 : Ex H H10 := ExD.ex (eH.trans e79) x10 hs0 (fresh_back e1 hb2)
          refine s_app (K := K) (v := .str r.1) hn10 (ev_var rfl) (ev_op (ev_op (ev_houses (K := K) (ev_var rfl) (e10 _ _ ha)) (ev_var rfl) (rv_ixT (st_of (e10 _ _ hb0')) (at_of (j := at') rfl (by rw [List.getElem?_map, hp]; rfl)))) ev_c (rv_ixT (st_of (e10 _ _ hrow)) (at_of (j := 0) rfl rfl))) (by omega) fun H11 e11 => ?_
          have hn11 := e11 _ _ hn10
          have tb := total_bump (f := f2) nd hrm
          have be3 := KQ.below_step g.good be2 hrm hx2 hpay
          have htot3 := g.total be3.1
          refine ⟨2400 - total qs (KQ.bump f2 r.1), by omega, KQ.bump f2 r.1, rfl, rfl, ⟨Ex.mut (e10.trans e11) (fresh_back e1 hn0), (S10.mono e11).upd hn11 nsn.symm hbn.symm, ?_, be3, _, upd_same, ?_⟩, ?_, ?_⟩
          · rw [upd_ne (ne_of hd10 hn10 (by intro z; cases z))]
            exact e11 _ _ hd10
          · rw [List.length_append, List.length_singleton]
            omega
          · rw [upd_ne n3]
            exact e11 _ _ hl10
          · right
            rcases hor with h | h
            · rw [h] at tb ⊢
              omega
            · omega
        · refine ⟨f2, _, _, rfl, R0m hR2 e8, e8 _ _ hln2, fun z => absurd z (Nat.succ_ne_zero i), fun _ => ?_⟩
          by_cases hi : i = 0
          · have e1' := hz hi
            rcases hor with h | h
            · rw [h, e1'] at hb2'
              rw [hcan] at hb2'
              cases hb2'
            · rw [e1'] at h
              exact h
          · have := hnz hi
            rcases hor with h | h
            · rw [h]
              exact this
            · omega
      · -- line = paying(queues, state, balances)
        obtain ⟨f1, z6, z7, rfl, hR1, hln1, hz, hnz⟩ := hP
        have hgt := hnz (by
          unfold ixV
          rw [List.length_map]
          exact fun z => hne (List.eq_nil_of_length_eq_zero z))
        obtain ⟨eH, S1, hd1, be1, ws, hn1, hws⟩ := id hR1
        have htot1 := g.total be1.1
        refine s_asgL (σ := [some (.ref a), some (.ref d), some (.ref st), some (.ref ba), some (.ref nm), some (.ref ln), z6, z7]) (el_paying (ea_cons (ev_var rfl) (ea_cons (ev_var rfl) (ea_cons (ev_var rfl) ea_nil))) S1) fun l2 H6 hl2 e6 hl6 => ?_
        exact ⟨2400 - total qs f1, by omega, f1, l2, z6, z7, rfl, rfl, R0m hR1 e6, hl6, (ne_of_none S1.st hl2).symm, (ne_of_none S1.ba hl2).symm, (ne_of_none hn1 hl2).symm⟩
    · have hnil : payIx qs (cashF qs) ff = [] := by
        cases hp : payIx qs (cashF qs) ff with
        | nil => rfl
        | cons x l =>
          rw [hp] at hb
          cases hb
      obtain ⟨eH, S1, hd1, be1, ws, hn1, hws⟩ := id hR
      refine s_retG (gv_tupUU (eu_tupQ (K := K) (eql_ev (ev_var rfl) (sq_of (e4 _ _ hn1)))) (eu_tupQ (K := K) (eql_ev (ev_var rfl) (sq_of (e4 _ _ S1.st))))) fun v H5 e5 hv => ?_
      obtain ⟨p, q1, q2, rfl, h1, h2, h3⟩ := hv
      exact k ff p H5 ⟨be1, payIx_none hnil⟩ (eH.trans (e4.trans e5)) ⟨q1, q2, ws, h1, h2, h3⟩
end
end NQ
namespace NQ
open PySem PySem.Spec PyProof.Rows L2 Evl
open KQ (Row held drop bump_same bump_ne drop_same drop_ne)
def stI (qs : List (Row Str)) (f : Str → Nat) : List Int := qs.map fun r => ((f r.1 : Nat) : Int)
theorem stV_ints (qs : List (Row Str)) (f : Str → Nat) : stV qs f = (stI qs f).map V.int := by
  unfold stV stI
  rw [List.map_map]
  rfl
theorem stI_eq {qs : List (Row Str)} {f g : Str → Nat} : stI qs f = stI qs g ↔ KQ.EqOn qs f g := by
  unfold stI KQ.EqOn
  rw [List.map_inj_left]
  constructor
  · intro h r hr
    have := h r hr
    omega
  · intro h r hr
    rw [h r hr]
theorem shaped_intsT (ns : List Int) : SeqAt.shaped (.tuple (ns.map PyData.int)) = true := by
  unfold SeqAt.shaped
  rw [PyData.canLay0, canLay_ints, PyData.depth, depth_ints]
  rfl
theorem eqv_intsT (ns ms : List Int) : PyData.eqv (.tuple (ns.map .int)) (.tuple (ms.map .int)) = decide (ns = ms) := by
  rw [PyData.eqv]
  exact PySem.W.ked_eqvAll ns ms
theorem dp_stT {K : PySem.W.Frag} {H : Hp} {s : Addr} {qs : List (Row Str)} {f : Str → Nat} (h : StH H s qs f) : Dp K H (.ref s) (.tuple ((stI qs f).map .int)) := .tup (st_of h) (by rw [stV_ints]; exact dp_ints _ _)
def flowB (qs : List (Row Str)) (f g : Str → Nat) : Bool := decide (stI qs f = stI qs g)
def wordS (b : Bool) : Str := if b then "flows" else "gridlock"
def spGrid : Sp := fun vs H Q _ => ∃ a qs, vs = [.ref a] ∧ QH H a qs ∧ GoodQ qs ∧ ∀ f g p x y H', KQ.Least qs (cashF qs) f → KQ.Great qs (cashF qs) g → Ex H H' → H' p = some (.tup [.str (wordS (flowB qs f g)), x, y]) → Q (.ref p) H'
def PreHouse : List V → Hp → Prop := fun vs H => ∃ a qs r, vs = [.ref a, .str r.1] ∧ QH H a qs ∧ GoodQ qs ∧ r ∈ qs
section
variable {K : PySem.W.Frag} {σ : L2.St} {H H' : Hp} {ta tb te : TE} {tr : TA} {D : Ends} {tz : TS}
theorem ev_eqSt {s s' : Addr} {qs : List (Row Str)} {f g : Str → Nat} (ha : Ev ta σ H (.ref s)) (hb : Ev tb σ H (.ref s')) (hs : StH H s qs f) (hs' : StH H s' qs g) : Ev (tOp (rEqD K) ta tb) σ H (.bl (flowB qs f g)) := fun H1 e Q q => by
  refine ha H1 e _ fun H2 e2 => hb H2 (e.trans e2) _ fun H3 e3 => ?_
  have e13 := (e.trans e2).trans e3
  refine ⟨_, _, dp_stT (e13 _ _ hs), dp_stT (e13 _ _ hs'), shaped_intsT _, shaped_intsT _, ?_⟩
  rw [eqv_intsT]
  exact q H3 (e2.trans e3)
end
section
variable {P : Program} {w : World} {K : PySem.W.Frag} {mg : Str → Option Value} {base : Heap} {f : Addr} {fd : FuncData} {aK : Addr} {tk : Tk}
theorem ok_gridlock_paper (F : Fun K "gridlock_paper" "gridlock_paper" s_gridlock_paper f fd) (T : Tx K mg aK tk) (c_check_queues : Cal P w K mg base CX0 4 "check_queues" ["queues"] (spN PreQ)) (c_retreat_walk : Cal P w K mg base CX0 3 "retreat_walk" ["queues"] spRet) (c_run_walk : Cal P w K mg base CX0 3 "run_walk" ["queues"] spRun) :
    FnOk P w K mg base CX0 5 f fd ["queues"] spGrid := by
  refine F.ok sc_gridlock_paper (fun vs H Q E h => ?_) (fun cdv A outer s H vs Q E hr h => ?_)
  · obtain ⟨a, qs, rfl, _⟩ := h
    rfl
  · obtain ⟨a, qs, rfl, hq, g, k⟩ := h
    have hu := hu_of hr
    refine ⟨_, (pss_cons (ps_expr (pe_cl c_check_queues hr (by decide) (by rfl) (pa_cons (pv 0) pa_nil)))
      (pss_cons (ps_asg (pe_cl c_retreat_walk hr (by decide) (by rfl) (pa_cons (pv 0) pa_nil)) (pgTup (K := K) (n := 2) rfl rfl (pgs_cons (pg_name (i := 1) sc_gridlock_paper.nd rfl (Or.inl rfl)) (pgs_cons (pg_name (i := 2) sc_gridlock_paper.nd rfl (Or.inl rfl)) pgs_nil))))
      (pss_cons (ps_asg (pe_cl c_run_walk hr (by decide) (by rfl) (pa_cons (pv 0) pa_nil)) (pgTup (K := K) (n := 2) rfl rfl (pgs_cons (pg_name (i := 3) sc_gridlock_paper.nd rfl (Or.inl rfl)) (pgs_cons (pg_name (i := 4) sc_gridlock_paper.nd rfl (Or.inl rfl)) pgs_nil))))
      (pss_one (ps_ret (pe_ifExp (pt_cmpR (opEqD (K := K) rfl hr.units) (pv 4) (pv 2) (nomark _)) (pe_tup (pa_cons pe_str (pa_cons (pv 1) (pa_cons (pv 3) pa_nil)))) (pe_tup (pa_cons pe_str (pa_cons (pv 1) (pa_cons (pv 4) pa_nil)))))))))), ?_⟩
    refine q_drop (v := .non) (ev_callN (ea_cons (ev_var rfl) ea_nil) fun H1 e1 => ⟨a, qs, rfl, hq.tx (TX.of e1), g⟩) fun H1 e1 => ?_
    refine gv_ret (σ := [some (.ref a), none, none, none, none]) (ea_cons (ev_var rfl) ea_nil) (hq.tx (TX.of e1)) g H1 (Ex.refl _) _ fun v H2 e2 hv => ?_
    obtain ⟨g2, p2, rfl, gr, b1, b2, ws, hp2, hb1, hb2⟩ := hv
    refine ⟨p2, [.ref b1, .ref b2], rfl, st_of hp2, rfl, .ref b1, [.ref b2], rfl, .ref b2, [], rfl, rfl, ?_⟩
    refine gv_run (σ := [some (.ref a), some (.ref b1), some (.ref b2), none, none]) (ea_cons (ev_var rfl) ea_nil) (hq.tx (TX.of (e1.trans e2))) g H2 (Ex.refl _) _ fun v H3 e3 hv => ?_
    obtain ⟨g3, p3, rfl, le, c1, c2, ws3, hp3, hc1, hc2⟩ := hv
    refine ⟨p3, [.ref c1, .ref c2], rfl, st_of hp3, rfl, .ref c1, [.ref c2], rfl, .ref c2, [], rfl, rfl, ?_⟩
    refine et_test (b := flowB qs g3 g2) (σ := [some (.ref a), some (.ref b1), some (.ref b2), some (.ref c1), some (.ref c2)]) (ev_eqSt (K := K) (ev_var (i := 4) rfl) (ev_var (i := 2) rfl) hc2 (e3 _ _ hb2)) H3 (Ex.refl _) _ fun H4 e4 => ?_
    have e14 := ((e1.trans e2).trans e3).trans e4
    cases hb : flowB qs g3 g2 with
    | true =>
      rw [if_pos rfl]
      refine eu_tup (σ := [some (.ref a), some (.ref b1), some (.ref b2), some (.ref c1), some (.ref c2)]) (H := H4) (vs := [.str "flows", .ref b1, .ref c1]) (ea_cons ev_c (ea_cons (ev_var rfl) (ea_cons (ev_var rfl) ea_nil))) (by show 3 ≤ 100000; omega) H4 (Ex.refl _) _ fun p H5 _ e5 hp => ?_
      refine k g3 g2 p (.ref b1) (.ref c1) H5 le gr (e14.trans e5) ?_
      rw [hb]
      exact hp
    | false =>
      rw [if_neg (by decide)]
      refine eu_tup (σ := [some (.ref a), some (.ref b1), some (.ref b2), some (.ref c1), some (.ref c2)]) (H := H4) (vs := [.str "gridlock", .ref b1, .ref c2]) (ea_cons ev_c (ea_cons (ev_var rfl) (ea_cons (ev_var rfl) ea_nil))) (by show 3 ≤ 100000; omega) H4 (Ex.refl _) _ fun p H5 _ e5 hp => ?_
      refine k g3 g2 p (.ref b1) (.ref c2) H5 le gr (e14.trans e5) ?_
      rw [hb]
      exact hp
theorem ok_check_house (F : Fun K "check_house" "check_house" s_check_house f fd) (T : Tx K mg aK tk) (c_number_of : Cal P w K mg base CX0 1 "number_of" ["queues"] spNum) : FnOk P w K mg base CX0 2 f fd ["queues", "house"] (spN PreHouse) := by
  refine F.ok sc_check_house (fun vs H Q E h => ?_) (fun cdv A outer s H vs Q E hr h => ?_)
  · obtain ⟨⟨a, qs, r, rfl, _⟩, _⟩ := h
    rfl
  · obtain ⟨⟨a, qs, r, rfl, hq, g, hm⟩, k⟩ := h
    have hu := hu_of hr
    refine ⟨_, (pss_one (ps_if (PW.pt (pw_or (pt_not (pt_val (pe_callB (crIsi (K := K) rfl) (by rfl) T.isinstance (by decide +kernel) (pa_cons (pv 1) (pa_cons (pe_bltn (v := .ty "str") (by rfl) T.str (by decide +kernel) rfl) pa_nil))))) (pw_or1 (pt_cmp (pc_dnotin hu (pv 1) (pe_cl c_number_of hr (by decide) (by rfl) (pa_cons (pv 0) pa_nil))) (by rfl)))))
        (pss_one ps_never)
        pss_nil)), ?_⟩
    obtain ⟨i, hi, e⟩ := List.mem_iff_getElem.mp hm
    have hqr : qs[i]? = some r := by rw [List.getElem?_eq_getElem hi, e]
    have hin := numK_at (asc_nodup g.asc) hqr
    refine s_when (b := false) (et_is (et_or (et_not (et_B (ev_isi (ev_var rfl) ev_c (ClsV.ty _) (fun _ _ => .base (.str r.1)) (kit_ty (b := "str") (r := true) (by decide +kernel))))) fun _ =>
      et_B (ed_dnotin (k := Sum.inr r.1) (ev_var rfl) (ed_num (ea_cons (ev_var rfl) ea_nil) hq g))) ?_) (fun z => by cases z) fun _ H1 e1 => k _ _ e1 rfl
    rw [hin]
    rfl
end
end NQ
namespace NQ
open PySem PySem.Spec PyProof.Rows L2 Evl
open KQ (Row held setC Lends Need Reach bump_same bump_ne)
/-! ### the cash of one house told otherwise -/
section
variable {qs : List (Row Str)} {z : Str} {c0 : Int}
theorem recash_names : names (recash z c0 qs) = names qs := by
  show List.map (fun r : Row Str => r.1) (List.map _ qs) = List.map (fun r : Row Str => r.1) qs
  rw [List.map_map]
  rfl
theorem recash_st (f : Str → Nat) : stV (recash z c0 qs) f = stV qs f := by
  unfold stV recash
  rw [List.map_map]
  rfl
theorem recash_num : numK (recash z c0 qs) = numK qs := by
  have hl : (recash z c0 qs).length = qs.length := List.length_map ..
  unfold numK
  rw [hl]
  congr 1
  refine List.map_congr_left fun i hi => ?_
  obtain ⟨r, hr⟩ := get_of (l := qs) (i := i) rfl (List.mem_range.mp hi)
  have h2 : (recash z c0 qs)[i]? = some (r.1, (if r.1 = z then c0 else r.2.1), r.2.2) := by unfold recash; rw [List.getElem?_map, hr]; rfl
  rw [getD_of hr, getD_of h2]
theorem recash_mem {q : Row Str} (h : q ∈ recash z c0 qs) : ∃ r ∈ qs, q = (r.1, (if r.1 = z then c0 else r.2.1), r.2.2) := by
  obtain ⟨r, hr, e⟩ := List.mem_map.mp h
  exact ⟨r, hr, e.symm⟩
theorem recash_in {r : Row Str} (h : r ∈ qs) : (r.1, (if r.1 = z then c0 else r.2.1), r.2.2) ∈ recash z c0 qs := List.mem_map.mpr ⟨r, h, rfl⟩
theorem recash_got (f : Str → Nat) (y : Str) : KQ.got (recash z c0 qs) f y = KQ.got qs f y := by
  unfold KQ.got recash
  rw [List.map_map]
  rfl
theorem recash_held (c : Str → Int) (f : Str → Nat) (r : Row Str) (u : Int) : held (recash z c0 qs) c f (r.1, u, r.2.2) = held qs c f r := by
  unfold held
  rw [recash_got]
theorem recash_within {f : Str → Nat} : KQ.Within (recash z c0 qs) f ↔ KQ.Within qs f :=
  ⟨fun h r hr => by
    have := h _ (recash_in (z := z) (c0 := c0) hr)
    exact this, fun h q hq => by
    obtain ⟨r, hr, rfl⟩ := recash_mem hq
    exact h r hr⟩
theorem recash_leq {f g : Str → Nat} : KQ.Leq (recash z c0 qs) f g ↔ KQ.Leq qs f g :=
  ⟨fun h r hr => by
    have := h _ (recash_in (z := z) (c0 := c0) hr)
    exact this, fun h q hq => by
    obtain ⟨r, hr, rfl⟩ := recash_mem hq
    exact h r hr⟩
theorem recash_stable {c : Str → Int} {f : Str → Nat} : KQ.Stable (recash z c0 qs) c f ↔ KQ.Stable qs c f :=
  ⟨fun h r hr x hx => by
    have := h _ (recash_in hr) x hx
    rw [recash_held] at this
    exact this, fun h q hq x hx => by
    obtain ⟨r, hr, rfl⟩ := recash_mem hq
    rw [recash_held]
    exact h r hr x hx⟩
theorem recash_reach {c : Str → Int} {g : Str → Nat} : Reach (recash z c0 qs) c g ↔ Reach qs c g := by
  unfold KQ.Reach
  constructor
  · intro h k wk sk
    exact recash_leq.mp (h k (recash_within.mpr wk) (recash_stable.mpr sk))
  · intro h k wk sk
    exact recash_leq.mpr (h k (recash_within.mp wk) (recash_stable.mp sk))
theorem recash_need {c : Str → Int} {h : Str} {g : Str → Nat} : ∀ {v : Option Int}, Need (recash z c0 qs) c h g v → Need qs c h g v
  | some v, ⟨a, b, d⟩ => ⟨a, recash_reach.mp b, fun u hu k => d u hu (recash_reach.mpr k)⟩
  | none, k => fun u hu q => k u hu (recash_reach.mpr q)
theorem recash_good (g : GoodQ qs) (h0 : 0 ≤ c0) (h1 : c0 ≤ 1000000) : GoodQ (recash z c0 qs) := by
  have hl : (recash z c0 qs).length = qs.length := List.length_map ..
  refine ⟨by rw [hl]; exact g.l1, by rw [hl]; exact g.l40, by rw [recash_names]; exact g.asc, fun q hq => ?_, fun q hq => ?_, fun q hq => ?_, fun q hq => ?_⟩
  · obtain ⟨r, hr, rfl⟩ := recash_mem hq
    exact g.nm r hr
  · obtain ⟨r, hr, rfl⟩ := recash_mem hq
    show 0 ≤ if r.1 = z then c0 else r.2.1
    split
    · exact h0
    · exact g.c0 r hr
  · obtain ⟨r, hr, rfl⟩ := recash_mem hq
    show (if r.1 = z then c0 else r.2.1) ≤ 1000000
    split
    · exact h1
    · exact g.cM r hr
  · obtain ⟨r, hr, rfl⟩ := recash_mem hq
    rw [recash_names]
    exact g.pay r hr
theorem recash_cash (nd : (names qs).Nodup) : ∀ q ∈ recash z c0 qs, setC (cashF qs) z c0 q.1 = q.2.1 := fun q hq => by
  obtain ⟨r, hr, rfl⟩ := recash_mem hq
  unfold KQ.setC
  show (if r.1 = z then c0 else cashF qs r.1) = if r.1 = z then c0 else r.2.1
  rw [cashF_at nd hr]
end
def optV : Option Int → V
  | some d => .int d
  | none => .non
def spNeeded : Sp := fun vs H Q _ => ∃ a gl qs r goal, vs = [.ref a, .str r.1, .ref gl] ∧ QH H a qs ∧ GoodQ qs ∧ r ∈ qs ∧ StH H gl qs goal ∧ KQ.Within qs goal ∧ ∀ v p x y H', Need qs (cashF qs) r.1 goal v → Ex H H' → H' p = some (.tup [optV v, x, y]) → Q (.ref p) H'
def spNeed : Sp := fun vs H Q _ => ∃ a gl qs r goal, vs = [.ref a, .str r.1, .ref gl] ∧ QH H a qs ∧ GoodQ qs ∧ r ∈ qs ∧ StH H gl qs goal ∧ KQ.Within qs goal ∧ ∀ v H', Need qs (cashF qs) r.1 goal v → Ex H H' → Q (optV v) H'
section
variable {K : PySem.W.Frag} {σ : L2.St} {H H' : Hp} {te : TE} {tr : TA}
theorem gv_needed {a gl : Addr} {qs : List (Row Str)} {r : Row Str} {goal : Str → Nat} (h : EvA tr σ H [.ref a, .str r.1, .ref gl]) (hq : QH H a qs) (g : GoodQ qs) (hm : r ∈ qs) (hg : StH H gl qs goal) (hw : KQ.Within qs goal) :
    Gv (tCall spNeeded [] E0 tr) σ H (fun v H2 => ∃ o p x y, v = .ref p ∧ Need qs (cashF qs) r.1 goal o ∧ H2 p = some (.tup [optV o, x, y])) := fun H1 e Q q => by
  refine h H1 e _ fun H2 e2 => ?_
  rw [List.append_nil]
  exact ⟨a, gl, qs, r, goal, rfl, hq.tx (TX.of (e.trans e2)), g, hm, (e.trans e2) _ _ hg, hw, fun v p x y H5 hn e5 hp => q _ H5 (e2.trans e5) ⟨v, p, x, y, rfl, hn, hp⟩⟩
theorem gv_first {R : Option Int → Prop} (h : Gv te σ H (fun v H2 => ∃ o p x y, v = .ref p ∧ R o ∧ H2 p = some (.tup [optV o, x, y]))) : Gv (tOp (rIxT K) te (tC (.int 0))) σ H (fun v _ => ∃ o, v = optV o ∧ R o) := fun H1 e Q q => by
  refine h H1 e _ fun v H2 e2 hv => ?_
  obtain ⟨o, p, x, y, rfl, hR, hp⟩ := hv
  exact ⟨p, [optV o, x, y], 0, optV o, rfl, rfl, st_of hp, at_of (j := 0) rfl rfl, q _ H2 e2 ⟨o, rfl, hR⟩⟩
end
section
variable {P : Program} {w : World} {K : PySem.W.Frag} {mg : Str → Option Value} {base : Heap} {f : Addr} {fd : FuncData} {aK : Addr} {tk : Tk}
theorem ok_needed_cash (F : Fun K "needed_cash" "needed_cash" s_needed_cash f fd) (T : Tx K mg aK tk) (c_check_queues : Cal P w K mg base CX0 4 "check_queues" ["queues"] (spN PreQ)) (c_check_house : Cal P w K mg base CX0 2 "check_house" ["queues", "house"] (spN PreHouse))
    (c_check_state : Cal P w K mg base CX0 3 "check_state" ["queues", "state"] (spN PreSt)) (c_needed : Cal P w K mg base CX0 3 "needed" ["queues", "house", "goal"] spNeeded) : FnOk P w K mg base CX0 5 f fd ["queues", "house", "goal"] spNeed := by
  refine F.ok sc_needed_cash (fun vs H Q E h => ?_) (fun cdv A outer s H vs Q E hr h => ?_)
  · obtain ⟨a, gl, qs, r, goal, rfl, _⟩ := h
    rfl
  · obtain ⟨a, gl, qs, r, goal, rfl, hq, g, hm, hg, hw, k⟩ := h
    have hu := hu_of hr
    refine ⟨_, (pss_cons (ps_expr (pe_cl c_check_queues hr (by decide) (by rfl) (pa_cons (pv 0) pa_nil)))
      (pss_cons (ps_expr (pe_cl c_check_house hr (by decide) (by rfl) (pa_cons (pv 0) (pa_cons (pv 1) pa_nil))))
      (pss_cons (ps_expr (pe_cl c_check_state hr (by decide) (by rfl) (pa_cons (pv 0) (pa_cons (pv 2) pa_nil))))
      (pss_one (ps_ret (pe_ix (ixT (K := K) rfl) (pe_cl c_needed hr (by decide) (by rfl) (pa_cons (pv 0) (pa_cons (pv 1) (pa_cons (pv 2) pa_nil)))) pe_int (fun _ _ => rfl))))))), ?_⟩
    refine q_drop (v := .non) (ev_callN (ea_cons (ev_var rfl) ea_nil) fun H1 e1 => ⟨a, qs, rfl, hq.tx (TX.of e1), g⟩) fun H1 e1 => ?_
    refine q_drop (v := .non) (ev_callN (ea_cons (ev_var rfl) (ea_cons (ev_var rfl) ea_nil)) fun H2 e2 => ⟨a, qs, r, rfl, hq.tx (TX.of (e1.trans e2)), g, hm⟩) fun H2 e2 => ?_
    refine q_drop (v := .non) (ev_callN (ea_cons (ev_var rfl) (ea_cons (ev_var rfl) ea_nil)) fun H3 e3 => ⟨a, gl, qs, goal, rfl, hq.tx (TX.of ((e1.trans e2).trans e3)), g, ((e1.trans e2).trans e3) _ _ hg, hw⟩) fun H3 e3 => ?_
    have e13 := (e1.trans e2).trans e3
    refine s_retG (gv_first (K := K) (gv_needed (ea_cons (ev_var (i := 0) rfl) (ea_cons (ev_var (i := 1) rfl) (ea_cons (ev_var (i := 2) rfl) ea_nil))) (hq.tx (TX.of e13)) g hm (e13 _ _ hg) hw)) fun v H4 e4 hv => ?_
    obtain ⟨o, rfl, hn⟩ := hv
    exact k o H4 hn (e13.trans e4)
end
end NQ
namespace NQ
open PySem PySem.Spec PyProof.Rows L2 Evl
open KQ (Row held setC Lends Need Reach bump_same bump_ne)
section
variable {K : PySem.W.Frag} {σ : L2.St} {H H' : Hp} {ta tb te tk tv : TE} {tr : TA} {D : Ends} {tz : TS} {x y z v : V}
/-- {k: v} -/
theorem ed_disp1 {k : Key} (h1 : Ev tk σ H (kV k)) (h2 : Ev tv σ H v) : EvD (tDisp [(tk, tv)]) σ H [(k, v)] := fun H1 e Q q => by
  intro p hp
  have x1 : Ex H1 (upd H1 p (.dK [])) := Ex.new hp
  refine h1 _ (e.trans x1) _ fun H2 e2 => h2 H2 ((e.trans x1).trans e2) _ fun H3 e3 => ?_
  refine ⟨(e2.trans e3) _ _ upd_same, [(k, v)], rfl, by show 1 ≤ 15; omega, ?_⟩
  exact q p _ hp (Ex.mut (x1.trans (e2.trans e3)) hp) upd_same
/-- x == [] -/
theorem ev_eqNil {p : Addr} {xs : List V} {ds : List PyData} (ha : Ev ta σ H (.ref p)) (hp : H p = some (.lst xs)) (hd : DpAll K H xs ds) (hds : ∀ H1, Ex H H1 → DpAll K H1 xs ds) (hs : SeqAt.shaped (.list ds) = true) : Ev (tOp (rEqD K) ta (tLst tNil)) σ H (.bl xs.isEmpty) := fun H1 e Q q => by
  refine ha H1 e _ fun H2 e2 => ?_
  refine ⟨Nat.zero_le _, fun n hn => ?_⟩
  have x1 : Ex H2 (upd H2 n (.lst [])) := Ex.new hn
  have e3 := (e.trans e2).trans x1
  refine ⟨.list ds, .list [], .lst (sq_of (e3 _ _ hp)) (hds _ e3), .lst (sq_of upd_same) .nil, hs, by decide, ?_⟩
  have eb : PyData.eqv (.list ds) (.list []) = xs.isEmpty := by
    cases xs with
    | nil =>
      cases hd
      rfl
    | cons x r =>
      cases hd
      rfl
  rw [eb]
  exact q _ (e2.trans x1)
end
/-- d, n = rich queues, a new dict -/
theorem gv_rich {K : PySem.W.Frag} {σ : L2.St} {H : Hp} {tq td : TE} {a : Addr} {qs : List (Row Str)} {z : Str} {c : Int} (ha : Ev tq σ H (.ref a)) (hd : EvD td σ H [(Sum.inr z, .int c)]) (hq : QH H a qs) (l40 : qs.length ≤ 40) :
    Gv (tCall spRich [] E0 (tCons tq (tCons td tNil))) σ H (fun v H2 => ∃ a', v = .ref a' ∧ QH H2 a' (recash z c qs)) := fun H1 e Q q => by
  refine ha H1 e _ fun H2 e2 => hd H2 (e.trans e2) _ fun d H3 hd0 e3 hd' => ?_
  exact ⟨a, d, qs, z, c, rfl, hq.tx (TX.of ((e.trans e2).trans e3)), l40, hd', fun a' H4 e4 h => q _ H4 ((e2.trans e3).trans e4) ⟨a', rfl, h⟩⟩
theorem lends_pay' {qs : List (Row Str)} (G : KQ.Good qs) {c : Str → Int} {h : Str} {goal f : Str → Nat} {v : Int} (L : Lends qs c h goal v f) {r : Row Str} {x : Str × Int} (hr : r ∈ qs) (hx : r.2.2[f r.1]? = some x) (pay : x.2 ≤ held qs (setC c h v) f r) : Lends qs c h goal v (KQ.bump f r.1) := KQ.lends_pay G L hr hx pay
/-- who can pay can pay, however many others have paid -/
theorem can_keep {qs : List (Row Str)} (g : KQ.Good qs) {c : Str → Int} {f : Str → Nat} {r q : Row Str} {x : Str × Int} (hr : r ∈ qs) (hq : q ∈ qs) (hne : q.1 ≠ r.1) (hx : r.2.2[f r.1]? = some x) (h : canPay qs c f q = true) : canPay qs c (KQ.bump f r.1) q = true := by
  obtain ⟨y, hy, hp⟩ := canPay_at h
  have hb := KQ.held_bump (c := c) g.nd hr hq hx
  rw [if_neg hne] at hb
  have h1 := g.pos r hr x (List.mem_of_getElem? hx)
  unfold canPay
  rw [bump_ne hne, hy]
  show decide (y.2 ≤ held qs c (KQ.bump f r.1) q) = true
  rw [hb]
  refine decide_eq_true ?_
  split <;> omega
theorem ev_with {σ : L2.St} {H : Hp} {tr : TA} {s l : Addr} {qs : List (Row Str)} {f g : Str → Nat} (h : EvA tr σ H [.ref s, .ref l]) (hs : StH H s qs f) (hl : H l = some (.lst (stV qs g))) (l40 : qs.length ≤ 40) : Ev (tCall spWith [] E0 tr) σ H (.bl (qs.all fun r => decide (f r.1 ≤ g r.1))) := fun H1 e Q q => by
  refine h H1 e _ fun H2 e2 => ?_
  rw [List.append_nil]
  exact ⟨s, l, qs, f, g, rfl, (e.trans e2) _ _ hs, (e.trans e2) _ _ hl, l40, fun H' e3 => q H' (e2.trans e3)⟩
theorem gv_ret3 {σ : L2.St} {H : Hp} {ta tb tc : TE} {x z : V} {ws : List V} (h1 : Ev ta σ H x) (h2 : EvU tb σ H ws) (h3 : Ev tc σ H z) : Gv (tTup (tCons ta (tCons tb (tCons tc tNil)))) σ H (fun v H2 => ∃ p q, v = .ref p ∧ H2 p = some (.tup [x, .ref q, z])) := fun H1 e Q q => by
  refine h1 H1 e _ fun H2 e2 => h2 H2 (e.trans e2) _ fun q1 H3 _ e3 _ => h3 H3 ((e.trans e2).trans e3) _ fun H4 e4 => ⟨by show 3 ≤ sizeLine; decide, fun p hp => ?_⟩
  exact q _ _ (((e2.trans e3).trans e4).trans (Ex.new hp)) ⟨p, q1, rfl, upd_same⟩
section
variable {P : Program} {w : World} {K : PySem.W.Frag} {mg : Str → Option Value} {base : Heap} {f : Addr} {fd : FuncData} {aK : Addr} {tk : Tk}
theorem ok_needed (F : Fun K "needed" "needed" s_needed f fd) (T : Tx K mg aK tk) (c_rich : Cal P w K mg base CX0 1 "rich" ["queues", "cash"] spRich) (c_number_of : Cal P w K mg base CX0 1 "number_of" ["queues"] spNum) (c_balance_list : Cal P w K mg base CX0 2 "balance_list" ["queues", "state"] spBal)
    (c_is_within : Cal P w K mg base CX0 1 "is_within" ["one", "other"] spWith) (c_paying : Cal P w K mg base CX0 1 "paying" ["queues", "state", "balances"] spPaying) (c_pays_next : Cal P w K mg base CX0 1 "pays_next" ["queues", "numbers", "state", "balances", "at"] spPay) :
    FnOk P w K mg base CX0 3 f fd ["queues", "house", "goal"] spNeeded := by
  refine F.ok sc_needed (fun vs H Q E h => ?_) (fun cdv A outer s H vs Q E hr h => ?_)
  · obtain ⟨a, gl, qs, r, goal, rfl, _⟩ := h
    rfl
  · obtain ⟨a, gl, qs, r, goal, rfl, hq, g, hrm, hg, hw, k⟩ := h
    have hu := hu_of hr
    refine ⟨_, (pss_cons (ps_par (i := 3) (j := 4) (by rfl) sc_needed.nd rfl rfl (by decide) rfl rfl (pa_cons (pe_cl c_rich hr (by decide) (by rfl) (pa_cons (pv 0) (pa_cons (pe_disp (pps_cons (pv 1) pe_int pps_nil) (by rfl) (by rfl) (fun z => by cases z) (by decide)) pa_nil))) (pa_cons (pe_cl c_number_of hr (by decide) (by rfl) (pa_cons (pv 0) pa_nil)) pa_nil)) (by rfl))
      (pss_cons (ps_asg (pe_tup (pa_cons (pe_dget hu (pv 4) (pv 1) (fun _ _ => rfl)) (pa_cons (pe_op op_rep (pe_lst (pa_cons pe_int pa_nil)) (pe_callB (crLen (K := K) rfl) (by rfl) T.len (by decide +kernel) (pa_cons (pe_ix (ixT (K := K) rfl) (pv 0) pe_int (fun _ _ => rfl)) pa_nil))) (pa_cons pe_int (pa_cons (pe_lst pa_nil) (pa_cons pe_non pa_nil)))))) (pgTup (K := K) (n := 5) rfl rfl (pgs_cons (pg_name (i := 5) sc_needed.nd rfl (Or.inl rfl)) (pgs_cons (pg_name (i := 6) sc_needed.nd rfl (Or.inl rfl)) (pgs_cons (pg_name (i := 7) sc_needed.nd rfl (Or.inl rfl)) (pgs_cons (pg_name (i := 8) sc_needed.nd rfl (Or.inl rfl)) (pgs_cons (pg_name (i := 9) sc_needed.nd rfl (Or.inl rfl)) pgs_nil)))))))
      (pss_cons (ps_set (i := 10) sc_needed.nd rfl (Or.inl rfl) (pe_cl c_balance_list hr (by decide) (by rfl) (pa_cons (pv 3) (pa_cons (pv 6) pa_nil))))
      (pss_cons (ps_while PassesOwn.never (pt_not (pt_val (pe_cl c_is_within hr (by decide) (by rfl) (pa_cons (pv 2) (pa_cons (pv 6) pa_nil)))))
        (pss_cons (ps_set (i := 11) sc_needed.nd rfl (Or.inl rfl) (pe_cl c_paying hr (by decide) (by rfl) (pa_cons (pv 3) (pa_cons (pv 6) (pa_cons (pv 10) pa_nil)))))
      (pss_cut (ps_if (pt_cmpR (opEqD (K := K) rfl hr.units) (pv 11) (pe_lst pa_nil) (nomark _))
        (pss_cons (ps_set (i := 9) sc_needed.nd rfl (Or.inl rfl) (pe_callTy (crTup (K := K) rfl) (by rfl) T.tuple (by decide +kernel) (pa_cons (pv 6) pa_nil)))
      (pss_cons (ps_if (pt_cmpR op_eq (pe_ix (ixL (K := K) rfl) (pv 6) (pv 5) (fun _ _ => rfl)) (pe_callB (crLen (K := K) rfl) (by rfl) T.len (by decide +kernel) (pa_cons (pe_ix (ixT (K := K) rfl) (pe_ix (ixT (K := K) rfl) (pe_ix (ixT (K := K) rfl) (pv 0) pe_int (fun _ _ => rfl)) (pv 5) (fun _ _ => rfl)) pe_int (fun _ _ => rfl)) pa_nil)) (nomark _))
        (pss_one (ps_ret (pe_tup (pa_cons pe_non (pa_cons (pe_callTy (crTup (K := K) rfl) (by rfl) T.tuple (by decide +kernel) (pa_cons (pv 8) pa_nil)) (pa_cons (pv 9) pa_nil))))))
        pss_nil)
      (pss_cons (ps_set (i := 12) sc_needed.nd rfl (Or.inl rfl) (pe_op op_sub (pe_ix (ixT (K := K) rfl) (pe_ix (ixT (K := K) rfl) (pe_ix (ixT (K := K) rfl) (pe_ix (ixT (K := K) rfl) (pe_ix (ixT (K := K) rfl) (pv 0) pe_int (fun _ _ => rfl)) (pv 5) (fun _ _ => rfl)) pe_int (fun _ _ => rfl)) (pe_ix (ixL (K := K) rfl) (pv 6) (pv 5) (fun _ _ => rfl)) (fun _ _ => rfl)) pe_int (fun _ _ => rfl)) (pe_ix (ixL (K := K) rfl) (pv 10) (pv 5) (fun _ _ => rfl))))
      (pss_cons (ps_aug (i := 7) sc_needed.nd rfl (Or.inl rfl) (pv 12) ip_add)
      (pss_cons (ps_augS (pv 10) (pv 5) (getL (K := K) rfl) (pv 12) ip_add set_list)
      (pss_one (ps_set (i := 11) sc_needed.nd rfl (Or.inl rfl) (pe_lst (pa_cons (pv 5) pa_nil)))))))))
        pss_nil)
      (pss_one (ps_for PassesOwn.never rfl (piLst (K := K) rfl (pv 11)) (pg_name (i := 13) sc_needed.nd rfl (Or.inl rfl))
        (pss_cons (ps_expr (pe_cl c_pays_next hr (by decide) (by rfl) (pa_cons (pv 3) (pa_cons (pv 4) (pa_cons (pv 6) (pa_cons (pv 10) (pa_cons (pv 13) pa_nil)))))))
      (pss_one (ps_expr (pe_bm PySem.F.plainAttrs_list PySem.F.slot_list_append PySem.F.type_list_append mt_append (pv 8) (pa_cons (pe_ix (ixT (K := K) rfl) (pe_ix (ixT (K := K) rfl) (pe_ix (ixT (K := K) rfl) (pv 0) pe_int (fun _ _ => rfl)) (pv 13) (fun _ _ => rfl)) pe_int (fun _ _ => rfl)) pa_nil))))))))))
      (pss_one (ps_ret (pe_tup (pa_cons (pv 7) (pa_cons (pe_callTy (crTup (K := K) rfl) (by rfl) T.tuple (by decide +kernel) (pa_cons (pv 8) pa_nil)) (pa_cons (pv 9) pa_nil)))))))))), ?_⟩
    obtain ⟨hb0, ha, ps, hb0', hpr⟩ := id hq
    have nd := asc_nodup g.asc
    have l40 := g.l40
    have hlen : (ps.map V.ref).length = qs.length := by rw [List.length_map, paired_len hpr]
    obtain ⟨i0, hi0, ei0⟩ := List.mem_iff_getElem.mp hrm
    have hqr : qs[i0]? = some r := by rw [List.getElem?_eq_getElem hi0, ei0]
    -- poor, numbers
    refine gv_rich (K := K) (σ := [some (.ref a), some (.str r.1), some (.ref gl), none, none, none, none, none, none, none, none, none, none, none]) (ev_var (i := 0) rfl) (ed_disp1 (k := Sum.inr r.1) (ev_var (i := 1) rfl) (ev_c (v := .int 0))) hq g.l40 H (Ex.refl _) _ fun v0 H1 e1 hv0 => ?_
    obtain ⟨a', rfl, hq'⟩ := hv0
    refine ed_num (σ := [some (.ref a), some (.str r.1), some (.ref gl), none, none, none, none, none, none, none, none, none, none, none]) (ea_cons (ev_var rfl) ea_nil) (hq.tx (TX.of e1)) g H1 (Ex.refl _) _ fun d H2 hd0 e2 hd => ?_
    refine ⟨.ref a', .ref d, rfl, ?_⟩
    have e12 := e1.trans e2
    have hd' := hd
    rw [← recash_num (z := r.1) (c0 := 0)] at hd'
    have ndq : (names (recash r.1 0 qs)).Nodup := by rw [recash_names]; exact nd
    have gq := recash_good (z := r.1) (c0 := 0) g (by omega) (by omega)
    have hl' : (recash r.1 0 qs).length = qs.length := List.length_map ..
    have e0 : List.replicate qs.length (V.int 0) = stV (recash r.1 0 qs) (fun _ => 0) := by
      rw [recash_st]
      unfold stV
      rw [List.map_const']
      rfl
    -- at, state, lent, steps, last
    refine ev_dget (σ := [some (.ref a), some (.str r.1), some (.ref gl), some (.ref a'), some (.ref d), none, none, none, none, none, none, none, none, none]) (k := Sum.inr r.1) (ev_var (i := 4) rfl) (ev_var (i := 1) rfl) hd (numK_at nd hqr) H2 (Ex.refl _) _ fun H3 e3 => ?_
    have we := el_rep (σ := [some (.ref a), some (.str r.1), some (.ref gl), some (.ref a'), some (.ref d), none, none, none, none, none, none, none, none, none]) (H := H3) (n := (ps.map V.ref).length) (ta := tLst (tCons (tC (.int 0)) tNil)) (el_lst (ea_cons (ev_c (v := .int 0)) ea_nil) (by show 1 ≤ 100000; omega)) (ev_lenT (K := K) (ev_houses (K := K) (ev_var (i := 0) rfl) ((e12.trans e3) _ _ ha)) (st_of ((e12.trans e3) _ _ hb0'))) (by omega)
    rw [hlen, e0] at we
    refine we H3 (Ex.refl _) _ fun st H4 hs0 e4 hst => ?_
    refine ev_c (v := .int 0) (σ := [some (.ref a), some (.str r.1), some (.ref gl), some (.ref a'), some (.ref d), none, none, none, none, none, none, none, none, none]) (H := H4) H4 (Ex.refl _) _ fun H4b e4b => ?_
    refine el_lst (σ := [some (.ref a), some (.str r.1), some (.ref gl), some (.ref a'), some (.ref d), none, none, none, none, none, none, none, none, none]) (H := H4b) ea_nil (by decide) H4b (Ex.refl _) _ fun sp H5b hp0 e5b hsp => ?_
    refine ev_c (v := .non) (σ := [some (.ref a), some (.str r.1), some (.ref gl), some (.ref a'), some (.ref d), none, none, none, none, none, none, none, none, none]) (H := H5b) H5b (Ex.refl _) _ fun H5 e5c => ?_
    have e5 := e5b.trans e5c
    refine ⟨by show 5 ≤ sizeLine; decide, fun tp htp => ?_⟩
    have e6 : Ex H5 (upd H5 tp (.tup [.int (i0 : Nat), .ref st, .int 0, .ref sp, .non])) := Ex.new htp
    refine ⟨tp, _, rfl, st_of upd_same, rfl, _, _, rfl, _, _, rfl, _, _, rfl, _, _, rfl, _, _, rfl, rfl, ?_⟩
    generalize upd H5 tp (.tup [.int (i0 : Nat), .ref st, .int 0, .ref sp, .non]) = H6 at e6
    have e36 := (e4.trans (e4b.trans e5)).trans e6
    have e16 := e12.trans (e3.trans e36)
    have hst6 := ((e4b.trans e5).trans e6) _ _ hst
    have nss : st ≠ sp := ne_of_none (e4b _ _ hst) hp0
    have fs0 : H st = none := fresh_back (e12.trans e3) hs0
    have fp0 : H sp = none := fresh_back (e12.trans (e3.trans (e4.trans e4b))) hp0
    refine q_asgL (σ := [some (.ref a), some (.str r.1), some (.ref gl), some (.ref a'), some (.ref d), some (.int (i0 : Nat)), some (.ref st), some (.int 0), some (.ref sp), some .non, none, none, none, none])
      (el_bal (c := setC (cashF qs) r.1 0) (ea_cons (ev_var rfl) (ea_cons (ev_var rfl) ea_nil)) (hq'.tx (TX.of (e2.trans (e3.trans e36)))) gq hst6 (fun _ _ => Nat.zero_le _) (recash_cash nd)) fun ba H7 hb7 e7 hba => ?_
    have nsb : st ≠ ba := ne_of_none hst6 hb7
    have nbp : ba ≠ sp := (ne_of_none ((e5c.trans e6) _ _ hsp) hb7).symm
    have fb0 : H ba = none := fresh_back e16 hb7
    have e17 := e16.trans e7
    have S0 : Sts H7 a' st ba (recash r.1 0 qs) (setC (cashF qs) r.1 0) (fun _ => 0) := ⟨hq'.tx (TX.of ((e2.trans (e3.trans e36)).trans e7)), gq.l40, ndq, e7 _ _ hst6, hba, nsb⟩
    let R0 : (Str → Nat) → Int → Hp → Prop := fun f2 v H' => Ex H H' ∧ Sts H' a' st ba (recash r.1 0 qs) (setC (cashF qs) r.1 v) f2 ∧ H' d = some (.dK (numK (recash r.1 0 qs))) ∧ ∃ ws, H' sp = some (.lst ws) ∧ ws.length ≤ total (recash r.1 0 qs) f2
    have R0m : ∀ {f2 v H' H''}, R0 f2 v H' → Ex H' H'' → R0 f2 v H'' := fun {f2 v H' H''} h e => by
      obtain ⟨a1, a2, a3, ws, a5, a6⟩ := h
      exact ⟨a1.trans e, a2.mono e, e _ _ a3, ws, e _ _ a5, a6⟩
    refine q_while (fun m σ' H' => ∃ (ff : Str → Nat) (v : Int) (y9 y11 y12 y13 : Option V), σ' = [some (.ref a), some (.str r.1), some (.ref gl), some (.ref a'), some (.ref d), some (.int (i0 : Nat)), some (.ref st), some (.int v), some (.ref sp), y9, some (.ref ba), y11, y12, y13] ∧
        m = 2400 - total (recash r.1 0 qs) ff ∧ R0 ff v H' ∧ Lends (recash r.1 0 qs) (cashF qs) r.1 goal v ff ∧ ∃ z9, y9 = some z9)
      (2400 - total (recash r.1 0 qs) fun _ => 0) ⟨_, 0, some .non, none, none, none, rfl, rfl, ⟨e17, S0, (e3.trans (e36.trans e7)) _ _ hd', [], (e5c.trans (e6.trans e7)) _ _ hsp, Nat.zero_le _⟩, KQ.lends_begin _ _ _ _, _, rfl⟩ fun m σ' H' hP => ?_
    obtain ⟨ff, v, y9, y11, y12, y13, rfl, rfl, hR, L, z9, rfl⟩ := hP
    obtain ⟨eH, S, hdn, ws, hws, lws⟩ := id hR
    have htot := gq.total L.below.1
    have hg' : StH H' gl (recash r.1 0 qs) goal := by
      unfold StH
      rw [recash_st]
      exact eH _ _ hg
    refine ⟨_, et_not (et_B (ev_with (σ := [some (.ref a), some (.str r.1), some (.ref gl), some (.ref a'), some (.ref d), some (.int (i0 : Nat)), some (.ref st), some (.int v), some (.ref sp), some z9, some (.ref ba), y11, y12, y13]) (ea_cons (ev_var rfl) (ea_cons (ev_var rfl) ea_nil)) hg' S.st gq.l40)), fun hb H8 e8 => ⟨_, fun _ _ h => h, ?_⟩, fun hb H8 e8 => ?_⟩
    · have no : ¬ KQ.Leq (recash r.1 0 qs) goal ff := fun hle => by
        rw [Bool.not_eq_true', List.all_eq_false] at hb
        obtain ⟨q, hq1, hq2⟩ := hb
        exact hq2 (decide_eq_true (hle q hq1))
      refine q_asgL (σ := [some (.ref a), some (.str r.1), some (.ref gl), some (.ref a'), some (.ref d), some (.int (i0 : Nat)), some (.ref st), some (.int v), some (.ref sp), some z9, some (.ref ba), y11, y12, y13]) (el_paying (ea_cons (ev_var rfl) (ea_cons (ev_var rfl) (ea_cons (ev_var rfl) ea_nil))) (S.mono e8)) fun ln H9 hl0 e9 hln => ?_
      have e89 := e8.trans e9
      have S9 := S.mono e89
      have n1 : ln ≠ st := (ne_of_none (e8 _ _ S.st) hl0).symm
      have n2 : ln ≠ ba := (ne_of_none (e8 _ _ S.ba) hl0).symm
      have n3 : ln ≠ sp := (ne_of_none (e8 _ _ hws) hl0).symm
      have wnil := ev_eqNil (K := K) (σ := [some (.ref a), some (.str r.1), some (.ref gl), some (.ref a'), some (.ref d), some (.int (i0 : Nat)), some (.ref st), some (.int v), some (.ref sp), some z9, some (.ref ba), some (.ref ln), y12, y13]) (H := H9) (ta := tVar 11) (xs := ixV (payIx (recash r.1 0 qs) (setC (cashF qs) r.1 v) ff)) (ds := ((payIx (recash r.1 0 qs) (setC (cashF qs) r.1 v) ff).map fun i => ((i : Nat) : Int)).map PyData.int) (ev_var rfl) hln (by rw [ixV_ints]; exact dp_ints _ _) (fun H1 _ => by rw [ixV_ints]; exact dp_ints _ _) (shaped_ints _)
      have hqr' : (recash r.1 0 qs)[i0]? = some (r.1, (if r.1 = r.1 then 0 else r.2.1), r.2.2) := by unfold recash; rw [List.getElem?_map, hqr]; rfl
      refine q_cut (M := fun σ' H' => ∃ (v' : Int) (ln : Addr) (is : List Nat) (Pp : Nat → (Str → Nat) → Prop) (z9 : V) (y12 y13 : Option V), σ' = [some (.ref a), some (.str r.1), some (.ref gl), some (.ref a'), some (.ref d), some (.int (i0 : Nat)), some (.ref st), some (.int v'), some (.ref sp), some z9, some (.ref ba), some (.ref ln), y12, y13] ∧
          R0 ff v' H' ∧ H' ln = some (.lst (ixV is)) ∧ ln ≠ st ∧ ln ≠ ba ∧ ln ≠ sp ∧ is ≠ [] ∧ is.length ≤ 40 ∧ Pp 0 ff ∧
          (∀ k i, is[k]? = some i → ∃ rr, (recash r.1 0 qs)[i]? = some rr ∧ ∀ f2, Pp k f2 → ∃ x, rr.2.2[f2 rr.1]? = some x ∧ Pp (k + 1) (KQ.bump f2 rr.1)) ∧ (∀ f2, Pp is.length f2 → Lends (recash r.1 0 qs) (cashF qs) r.1 goal v' f2)) ?_ fun σ' H10 hP => ?_
      · refine s_when (σ := [some (.ref a), some (.str r.1), some (.ref gl), some (.ref a'), some (.ref d), some (.int (i0 : Nat)), some (.ref st), some (.int v), some (.ref sp), some z9, some (.ref ba), some (.ref ln), y12, y13]) (et_test wnil) (fun hb2 H10 e10 => ?_) (fun hb2 H10 e10 => ?_)
        · -- nobody can pay
          have hnil : payIx (recash r.1 0 qs) (setC (cashF qs) r.1 v) ff = [] := by
            cases hp : payIx (recash r.1 0 qs) (setC (cashF qs) r.1 v) ff with
            | nil => rfl
            | cons x l =>
              rw [hp] at hb2
              cases hb2
          have stb := payIx_none hnil
          have S10 := S9.mono e10
          have eH10 := (eH.trans e89).trans e10
          have hrm' : (r.1, (if r.1 = r.1 then 0 else r.2.1), r.2.2) ∈ recash r.1 0 qs := List.mem_of_getElem? hqr'
          have hst0 : (stV (recash r.1 0 qs) ff)[i0]? = some (.int (ff r.1 : Nat)) := stV_at (r := (r.1, (if r.1 = r.1 then 0 else r.2.1), r.2.2)) hqr'
          obtain ⟨p, hp⟩ := get_of (l := ps) (i := i0) rfl (by rw [paired_len hpr]; exact (List.getElem?_eq_some_iff.mp hqr).1)
          obtain ⟨q', hrow, ps', hp', hpr'⟩ := paired_at hpr hp hqr
          -- last = tuple(state)
          refine q_asgU (eu_tupQ (K := K) (eql_ev (ev_var (i := 6) rfl) (sq_of S10.st))) fun tl H11 _ e11 htl => ?_
          have S11 := S10.mono e11
          have eH11 := eH10.trans e11
          have epay : ∀ {y11 y12 : Option V} {H3 : Hp}, Ex H11 H3 → Ev (tOp (rIxT K) (tOp (rIxT K) (tOp (rIxT K) (tVar 0) (tC (.int 1))) (tVar 5)) (tC (.int 2))) [some (.ref a), some (.str r.1), some (.ref gl), some (.ref a'), some (.ref d), some (.int (i0 : Nat)), some (.ref st), some (.int v), some (.ref sp), some (.ref tl), some (.ref ba), y11, y12, y13] H3 (.ref q') := fun e3 =>
            ev_op (ev_op (ev_houses (K := K) (ev_var rfl) ((eH11.trans e3) _ _ ha)) (ev_var rfl) (rv_ixT (st_of ((eH11.trans e3) _ _ hb0')) (at_of (j := i0) rfl (by rw [List.getElem?_map, hp]; rfl)))) ev_c (rv_ixT (st_of ((eH11.trans e3) _ _ hrow)) (at_of (j := 2) rfl rfl))
          have est : ∀ {y11 y12 : Option V} {H3 : Hp}, Ex H11 H3 → Ev (tOp (rIxL K) (tVar 6) (tVar 5)) [some (.ref a), some (.str r.1), some (.ref gl), some (.ref a'), some (.ref d), some (.int (i0 : Nat)), some (.ref st), some (.int v), some (.ref sp), some (.ref tl), some (.ref ba), y11, y12, y13] H3 (.int (ff r.1 : Nat)) := fun e3 =>
            ev_op (ev_var rfl) (ev_var rfl) (rv_ixL (sq_of (e3 _ _ S11.st)) (at_of (j := i0) rfl hst0))
          refine q_when (σ := [some (.ref a), some (.str r.1), some (.ref gl), some (.ref a'), some (.ref d), some (.int (i0 : Nat)), some (.ref st), some (.int v), some (.ref sp), some (.ref tl), some (.ref ba), some (.ref ln), y12, y13]) (et_test (ev_eqI (est (Ex.refl _)) (ev_lenT (epay (Ex.refl _)) (st_of (eH11 _ _ hp'))))) (fun hb3 H12 e12c => ?_) (fun hb3 H12 e12c => ?_)
          · have hfull : ff r.1 = r.2.2.length := by
              have := of_decide_eq_true hb3
              rw [List.length_map, paired_len hpr'] at this
              omega
            have hN := recash_need (KQ.lends_none L stb no ndq hrm' rfl hfull)
            refine s_retG (gv_ret3 (σ := [some (.ref a), some (.str r.1), some (.ref gl), some (.ref a'), some (.ref d), some (.int (i0 : Nat)), some (.ref st), some (.int v), some (.ref sp), some (.ref tl), some (.ref ba), some (.ref ln), y12, y13]) (ev_c (v := .non)) (eu_tupQ (K := K) (eql_ev (ev_var (i := 8) rfl) (sq_of ((e89.trans (e10.trans (e11.trans e12c))) _ _ hws)))) (ev_var (i := 9) rfl)) fun v9 H13 e13 hv9 => ?_
            obtain ⟨p, q9, rfl, hp9⟩ := hv9
            exact k none p (.ref q9) (.ref tl) H13 hN ((eH11.trans e12c).trans e13) hp9
          · have hlt : ff r.1 < r.2.2.length := by
              have h1 := L.below.1 _ hrm'
              have h2 := of_decide_eq_false hb3
              rw [List.length_map, paired_len hpr'] at h2
              have h1 : ff r.1 ≤ r.2.2.length := h1
              omega
            obtain ⟨x, hx⟩ := get_of (l := r.2.2) (i := ff r.1) rfl hlt
            obtain ⟨px, hpx⟩ := get_of (l := ps') (i := ff r.1) (paired_len hpr') hlt
            have hxp : H px = some (.tup [.str x.1, .int x.2]) := paired_at hpr' hpx hx
            obtain ⟨hpos, L2'⟩ := KQ.lends_more gq.good L stb no hrm' rfl hx
            have eheld : held (recash r.1 0 qs) (setC (cashF qs) r.1 v) ff (r.1, (if r.1 = r.1 then 0 else r.2.1), r.2.2) = held qs (setC (cashF qs) r.1 v) ff r := recash_held _ _ _ _
            have S12 := S11.mono e12c
            have eH12 := eH11.trans e12c
            -- loan
            refine q_asg (v := .int (x.2 - held qs (setC (cashF qs) r.1 v) ff r)) (ev_sub (ev_op (ev_op (epay e12c) (est e12c) (rv_ixT (st_of (eH12 _ _ hp')) (at_of (j := ff r.1) rfl (by rw [List.getElem?_map, hpx]; rfl)))) ev_c (rv_ixT (st_of (eH12 _ _ hxp)) (at_of (j := 1) rfl rfl)))
              (ev_op (ev_var (i := 10) rfl) (ev_var (i := 5) rfl) (rv_ixL (sq_of S12.ba) (at_of (j := i0) rfl (by rw [← eheld]; exact baV_at hqr'))))) fun H13 e13 => ?_
            rw [← eheld]
            generalize hloan : x.2 - held (recash r.1 0 qs) (setC (cashF qs) r.1 v) ff (r.1, (if r.1 = r.1 then 0 else r.2.1), r.2.2) = loan at hpos L2' ⊢
            -- lent += loan
            refine q_aug (σ := [some (.ref a), some (.str r.1), some (.ref gl), some (.ref a'), some (.ref d), some (.int (i0 : Nat)), some (.ref st), some (.int v), some (.ref sp), some (.ref tl), some (.ref ba), some (.ref ln), some (.int loan), y13]) (f := fun i j => i + j) (i := 7) (a := v) (b := loan) rfl (ev_var (i := 12) rfl) fun H14 e14 => ?_
            have S14 := S12.mono (e13.trans e14)
            have eH14 := eH12.trans (e13.trans e14)
            -- balances[at] += loan
            refine q_augL (fn := fun i j => i + j) (j := i0) (σ := [some (.ref a), some (.str r.1), some (.ref gl), some (.ref a'), some (.ref d), some (.int (i0 : Nat)), some (.ref st), some (.int (v + loan)), some (.ref sp), some (.ref tl), some (.ref ba), some (.ref ln), some (.int loan), y13]) S14.ba (ev_var rfl) (ev_var rfl) (baV_at hqr') (ev_var (i := 12) rfl) fun H15 e15 => ?_
            have es1 : (baV (recash r.1 0 qs) (setC (cashF qs) r.1 v) ff).set i0 (.int (held (recash r.1 0 qs) (setC (cashF qs) r.1 v) ff (r.1, (if r.1 = r.1 then 0 else r.2.1), r.2.2) + loan)) = baV (recash r.1 0 qs) (setC (cashF qs) r.1 (v + loan)) ff := by
              refine map_set ndq hqr' ?_ fun q hq hn => ?_
              · unfold KQ.held
                rw [KQ.setC_same, KQ.setC_same]
                congr 1
                omega
              · unfold KQ.held
                rw [KQ.setC_ne hn, KQ.setC_ne hn]
            rw [es1]
            have S15 : Sts (upd H15 ba (.lst (baV (recash r.1 0 qs) (setC (cashF qs) r.1 (v + loan)) ff))) a' st ba (recash r.1 0 qs) (setC (cashF qs) r.1 (v + loan)) ff :=
              ⟨(S14.mono e15).q.tx (TX.updL (e15 _ _ S14.ba)), gq.l40, ndq, by rw [upd_ne nsb]; exact e15 _ _ S14.st, upd_same, nsb⟩
            have e9_15 := (e10.trans (e11.trans (e12c.trans (e13.trans (e14.trans e15)))))
            have eH15 : Ex H (upd H15 ba (.lst (baV (recash r.1 0 qs) (setC (cashF qs) r.1 (v + loan)) ff))) := Ex.mut (eH14.trans e15) fb0
            have hd15 : (upd H15 ba (.lst (baV (recash r.1 0 qs) (setC (cashF qs) r.1 (v + loan)) ff))) d = some (.dK (numK (recash r.1 0 qs))) := by
              rw [upd_ne (ne_of (hdn) (S.ba) (by intro z; cases z))]
              exact (e89.trans e9_15) _ _ hdn
            have hsp15 : (upd H15 ba (.lst (baV (recash r.1 0 qs) (setC (cashF qs) r.1 (v + loan)) ff))) sp = some (.lst ws) := by
              rw [upd_ne nbp.symm]
              exact (e89.trans e9_15) _ _ hws
            generalize upd H15 ba (.lst (baV (recash r.1 0 qs) (setC (cashF qs) r.1 (v + loan)) ff)) = H16 at S15 eH15 hd15 hsp15
            refine s_asgL (σ := [some (.ref a), some (.str r.1), some (.ref gl), some (.ref a'), some (.ref d), some (.int (i0 : Nat)), some (.ref st), some (.int (v + loan)), some (.ref sp), some (.ref tl), some (.ref ba), some (.ref ln), some (.int loan), y13]) (el_lst (ea_cons (ev_var (i := 5) rfl) ea_nil) (by show 1 ≤ 100000; omega)) fun l2 H17 hl2 e17 hl17 => ?_
            refine ⟨v + loan, l2, [i0], fun kk f2 => f2 = if kk = 0 then ff else KQ.bump ff r.1, .ref tl, _, _, rfl, ⟨eH15.trans e17, S15.mono e17, e17 _ _ hd15, ws, e17 _ _ hsp15, lws⟩, hl17, (ne_of_none S15.st hl2).symm, (ne_of_none S15.ba hl2).symm, (ne_of_none hsp15 hl2).symm, by simp, by simp, rfl, fun kk i hi => ?_, fun f2 hf => ?_⟩
            · obtain ⟨rfl, rfl⟩ : kk = 0 ∧ i = i0 := by
                have hk0 := (List.getElem?_eq_some_iff.mp hi).1
                have : kk = 0 := by
                  rw [List.length_singleton] at hk0
                  omega
                subst this
                exact ⟨rfl, (Option.some.inj hi).symm⟩
              refine ⟨_, hqr', fun f2 hf => ⟨x, ?_, ?_⟩⟩
              · rw [hf, if_pos rfl]
                exact hx
              · rw [hf]
                rfl
            · rw [hf, if_neg (by simp)]
              exact L2'
        · have hne : payIx (recash r.1 0 qs) (setC (cashF qs) r.1 v) ff ≠ [] := fun z => by
            rw [z] at hb2
            cases hb2
          have hlen40 : (payIx (recash r.1 0 qs) (setC (cashF qs) r.1 v) ff).length ≤ 40 := by
            unfold payIx idxs
            have := List.length_filter_le (fun i => canPay (recash r.1 0 qs) (setC (cashF qs) r.1 v) ff ((recash r.1 0 qs).getD i rowD)) (List.range (recash r.1 0 qs).length)
            rw [List.length_range] at this
            have := gq.l40
            omega
          have hnd : (payIx (recash r.1 0 qs) (setC (cashF qs) r.1 v) ff).Nodup := List.Nodup.sublist List.filter_sublist List.nodup_range
          refine ⟨v, ln, payIx (recash r.1 0 qs) (setC (cashF qs) r.1 v) ff, fun kk f2 => Lends (recash r.1 0 qs) (cashF qs) r.1 goal v f2 ∧ ∀ j i rr, kk ≤ j → (payIx (recash r.1 0 qs) (setC (cashF qs) r.1 v) ff)[j]? = some i → (recash r.1 0 qs)[i]? = some rr → canPay (recash r.1 0 qs) (setC (cashF qs) r.1 v) f2 rr = true, z9, y12, y13, rfl, R0m hR (e89.trans e10), e10 _ _ hln, n1, n2, n3, hne, hlen40, ⟨L, fun j i rr _ hj hrr => ?_⟩, fun kk i hi => ?_, fun f2 hf => hf.1⟩
          · obtain ⟨r2, hr2, hc2⟩ := payIx_at hj
            rw [hrr] at hr2
            cases hr2
            exact hc2
          · obtain ⟨rr, hrr, _⟩ := payIx_at hi
            refine ⟨rr, hrr, fun f2 hf => ?_⟩
            obtain ⟨x, hx, hpay⟩ := canPay_at (hf.2 kk i rr (Nat.le_refl _) hi hrr)
            have hrrm := List.mem_of_getElem? hrr
            refine ⟨x, hx, KQ.lends_pay gq.good hf.1 hrrm hx hpay, fun j i2 r2 hj hi2 hr2 => ?_⟩
            refine can_keep gq.good hrrm (List.mem_of_getElem? hr2) (fun z => ?_) hx (hf.2 j i2 r2 (by omega) hi2 hr2)
            have hi2l := (List.getElem?_eq_some_iff.mp hr2).1
            have a1 : (names (recash r.1 0 qs))[i]? = some rr.1 := by rw [List.getElem?_map, hrr]; rfl
            have a2 : (names (recash r.1 0 qs))[i2]? = some r2.1 := by rw [List.getElem?_map, hr2]; rfl
            rw [z, ← a1] at a2
            have := (List.getElem?_inj (by rw [List.length_map]; exact hi2l) ndq).mp a2
            subst this
            have hjl := (List.getElem?_eq_some_iff.mp hi2).1
            have := (List.getElem?_inj hjl hnd).mp (hi2.trans hi.symm)
            omega
      · obtain ⟨v', ln', is, Pp, w9, x12, x13, rfl, hR', hln', m1, m2, m3, hne, h40, hP0, hstep, hend⟩ := hP
        refine s_forL (K := K) (σ := [some (.ref a), some (.str r.1), some (.ref gl), some (.ref a'), some (.ref d), some (.int (i0 : Nat)), some (.ref st), some (.int v'), some (.ref sp), some w9, some (.ref ba), some (.ref ln'), x12, x13]) (xs := ixV is) (ev_var rfl) (sq_of hln')
          (fun j σ' H' => ∃ (f2 : Str → Nat) (y13 : Option V), σ' = [some (.ref a), some (.str r.1), some (.ref gl), some (.ref a'), some (.ref d), some (.int (i0 : Nat)), some (.ref st), some (.int v'), some (.ref sp), some w9, some (.ref ba), some (.ref ln'), x12, y13] ∧ R0 f2 v' H' ∧ H' ln' = some (.lst (ixV is)) ∧ Pp j f2 ∧ total (recash r.1 0 qs) f2 = total (recash r.1 0 qs) ff + j)
          (fun H11 e11 => ⟨ff, x13, rfl, R0m hR' e11, e11 _ _ hln', hP0, rfl⟩) (fun j σ' H' _ hP => ?_) (fun j x σ' H11 hx hP => ?_) (fun σ' H11 hP => ?_)
        · obtain ⟨_, _, _, _, h, _⟩ := hP
          exact sq_of h
        · obtain ⟨f2, w13, rfl, hR2, hl2, hp2, ht2⟩ := hP
          obtain ⟨i, hi, rfl⟩ := map_at hx
          obtain ⟨rr, hrr, hs⟩ := hstep j i hi
          obtain ⟨x, hx2, hp3⟩ := hs f2 hp2
          have hj := (List.getElem?_eq_some_iff.mp hi).1
          have hrrm := List.mem_of_getElem? hrr
          obtain ⟨eH2, S2, hd2, ws2, hw2, lw2⟩ := id hR2
          have iq : i < qs.length := by
            have := (List.getElem?_eq_some_iff.mp hrr).1
            omega
          obtain ⟨rq, hrq⟩ := get_of (l := qs) (i := i) rfl iq
          obtain ⟨p, hp⟩ := get_of (l := ps) (i := i) rfl (by rw [paired_len hpr]; exact iq)
          obtain ⟨q', hrow, _⟩ := paired_at hpr hp hrq
          refine q_dropC (σ := [some (.ref a), some (.str r.1), some (.ref gl), some (.ref a'), some (.ref d), some (.int (i0 : Nat)), some (.ref st), some (.int v'), some (.ref sp), some w9, some (.ref ba), some (.ref ln'), x12, some (.int (i : Nat))]) (ea_cons (ev_var rfl) (ea_cons (ev_var rfl) (ea_cons (ev_var rfl) (ea_cons (ev_var rfl) (ea_cons (ev_var rfl) ea_nil))))) fun H12 e12b => ?_
          refine ⟨a', d, st, ba, recash r.1 0 qs, setC (cashF qs) r.1 v', f2, i, rr, x, rfl, S2.mono e12b, e12b _ _ hd2, hrr, hx2, (gq.pay rr hrrm).mem x (List.mem_of_getElem? hx2), fun H13 x13b S13 => ?_⟩
          have hs13 : H13 sp = some (.lst ws2) := x13b _ _ (e12b _ _ hw2) nss.symm nbp.symm
          have hl13 : H13 ln' = some (.lst (ixV is)) := x13b _ _ (e12b _ _ hl2) m1 m2
          have hd13 : H13 d = some (.dK (numK (recash r.1 0 qs))) := x13b _ _ (e12b _ _ hd2) (ne_of hd2 S2.st (by intro z; cases z)) (ne_of hd2 S2.ba (by intro z; cases z))
          have e13 : Ex H H13 := ExD.ex (eH2.trans e12b) x13b fs0 fb0
          refine s_app (K := K) (v := .str rq.1) hs13 (ev_var rfl) (ev_op (ev_op (ev_houses (K := K) (ev_var rfl) (e13 _ _ ha)) (ev_var rfl) (rv_ixT (st_of (e13 _ _ hb0')) (at_of (j := i) rfl (by rw [List.getElem?_map, hp]; rfl)))) ev_c (rv_ixT (st_of (e13 _ _ hrow)) (at_of (j := 0) rfl rfl))) (by omega) fun H14 e14 => ?_
          have hs14 := e14 _ _ hs13
          have tb := total_bump (f := f2) ndq hrrm
          refine ⟨KQ.bump f2 rr.1, _, rfl, ⟨Ex.mut (e13.trans e14) fp0, (S13.mono e14).upd hs14 nss.symm nbp.symm, ?_, _, upd_same, ?_⟩, ?_, hp3, by omega⟩
          · rw [upd_ne (ne_of hd13 hs13 (by intro z; cases z))]
            exact e14 _ _ hd13
          · rw [List.length_append, List.length_singleton]
            omega
          · rw [upd_ne m3]
            exact e14 _ _ hl13
        · obtain ⟨f2, w13, rfl, hR2, hl2, hp2, ht2⟩ := hP
          have hli : (ixV is).length = is.length := List.length_map ..
          have hpos := List.length_pos_iff.mpr hne
          have L2' := hend f2 (by rw [← hli]; exact hp2)
          have ht3 := gq.total L2'.below.1
          exact ⟨2400 - total (recash r.1 0 qs) f2, by omega, f2, v', _, _, _, _, rfl, rfl, hR2, L2', _, rfl⟩
    · have yes : KQ.Leq (recash r.1 0 qs) goal ff := fun q hq => by
        rw [Bool.not_eq_false'] at hb
        exact of_decide_eq_true (List.all_eq_true.mp hb q hq)
      have hN := recash_need (KQ.lends_done L yes)
      refine s_retG (gv_ret3 (σ := [some (.ref a), some (.str r.1), some (.ref gl), some (.ref a'), some (.ref d), some (.int (i0 : Nat)), some (.ref st), some (.int v), some (.ref sp), some z9, some (.ref ba), y11, y12, y13]) (ev_var (i := 7) rfl) (eu_tupQ (K := K) (eql_ev (ev_var (i := 8) rfl) (sq_of (e8 _ _ hws)))) (ev_var (i := 9) rfl)) fun v9 H9 e9 hv9 => ?_
      obtain ⟨p, q9, rfl, hp9⟩ := hv9
      exact k (some v) p (.ref q9) z9 H9 hN (eH.trans (e8.trans e9)) hp9
end
end NQ
namespace NQ
open PySem PySem.Spec PyProof.Rows L2 Evl
/-! ### the source of draws -/
abbrev kWide : Key := Sum.inr "wide"
abbrev kCells : Key := Sum.inr "cells"
abbrev kRest : Key := Sum.inr "rest"
abbrev kTurn : Key := Sum.inr "turn"
theorem ne_wr : ¬ kWide = kRest := by decide +kernel
theorem ne_wt : ¬ kWide = kTurn := by decide +kernel
theorem ne_cr : ¬ kCells = kRest := by decide +kernel
theorem ne_ct : ¬ kCells = kTurn := by decide +kernel
theorem ne_rt : ¬ kRest = kTurn := by decide +kernel
theorem ne_tr : ¬ kTurn = kRest := by decide +kernel
/-- the draws at a: the large numbers at l, the cells at c; at most N turns so far -/
structure Dr (a l c : Addr) (N : Nat) (H : Hp) : Prop where
  ex : ∃ (kvs : List (Key × V)) (lg cs : List Int) (rest turn : Int), H a = some (.dK kvs) ∧ kvs.length ≤ 100 ∧ valV kvs kWide = some (.ref l) ∧ valV kvs kCells = some (.ref c) ∧ valV kvs kRest = some (.int rest) ∧ valV kvs kTurn = some (.int turn) ∧
    H l = some (.lst (lg.map V.int)) ∧ H c = some (.lst (cs.map V.int)) ∧ l ≠ c ∧ (∀ x ∈ lg, 0 ≤ x) ∧ (∀ x ∈ cs, 0 ≤ x) ∧ 0 ≤ rest ∧ 0 ≤ turn ∧ turn ≤ (N : Int) ∧ lg.length ≤ 100 ∧ cs.length ≤ 100
theorem Dr.mono {a l c : Addr} {N : Nat} {H H' : Hp} (h : Dr a l c N H) (e : Ex H H') : Dr a l c N H' := by
  obtain ⟨kvs, lg, cs, rest, turn, h1, h2, h3, h4, h5, h6, h7, h8, h9⟩ := h.ex
  exact ⟨kvs, lg, cs, rest, turn, e _ _ h1, h2, h3, h4, h5, h6, e _ _ h7, e _ _ h8, h9⟩
theorem Dr.up {a l c : Addr} {N M : Nat} {H : Hp} (h : Dr a l c N H) (hm : N ≤ M) : Dr a l c M H := by
  obtain ⟨kvs, lg, cs, rest, turn, h1, h2, h3, h4, h5, h6, h7, h8, h9, h10, h11, h12, h13, h14, h15⟩ := h.ex
  exact ⟨kvs, lg, cs, rest, turn, h1, h2, h3, h4, h5, h6, h7, h8, h9, h10, h11, h12, h13, by omega, h15⟩
theorem Dr.rest {a l c : Addr} {N : Nat} {H : Hp} (h : Dr a l c N H) {v : Int} (hv : 0 ≤ v) : ∃ kvs, H a = some (.dK kvs) ∧ kvs.length < sizeLine ∧ Dr a l c N (upd H a (.dK (putK kvs kRest (.int v)))) ∧ ExD a l H (upd H a (.dK (putK kvs kRest (.int v)))) := by
  obtain ⟨kvs, lg, cs, rest, turn, h1, h2, h3, h4, h5, h6, h7, h8, h9, h10, h11, h12, h13, h14, h15⟩ := h.ex
  have nl : l ≠ a := ne_of h7 h1 (by intro z; cases z)
  have nc : c ≠ a := ne_of h8 h1 (by intro z; cases z)
  refine ⟨kvs, h1, small1000 (by omega), ⟨putK kvs kRest (.int v), lg, cs, v, turn, upd_same, by rw [putK_len h5]; exact h2, by rw [valV_put, if_neg ne_wr]; exact h3, by rw [valV_put, if_neg ne_cr]; exact h4, by rw [valV_put, if_pos rfl],
    by rw [valV_put, if_neg ne_tr]; exact h6, by rw [upd_ne nl]; exact h7, by rw [upd_ne nc]; exact h8, h9, h10, h11, hv, h13, h14, h15⟩, fun b o e n1 n2 => by rw [upd_ne n1]; exact e⟩
theorem Dr.turn {a l c : Addr} {N : Nat} {H : Hp} (h : Dr a l c N H) {v : Int} (hv : 0 ≤ v) (hn : v ≤ (N : Int) + 1) : ∃ kvs, H a = some (.dK kvs) ∧ kvs.length < sizeLine ∧ Dr a l c (N + 1) (upd H a (.dK (putK kvs kTurn (.int v)))) ∧ ExD a l H (upd H a (.dK (putK kvs kTurn (.int v)))) := by
  obtain ⟨kvs, lg, cs, rest, turn, h1, h2, h3, h4, h5, h6, h7, h8, h9, h10, h11, h12, h13, h14, h15⟩ := h.ex
  have nl : l ≠ a := ne_of h7 h1 (by intro z; cases z)
  have nc : c ≠ a := ne_of h8 h1 (by intro z; cases z)
  refine ⟨kvs, h1, small1000 (by omega), ⟨putK kvs kTurn (.int v), lg, cs, rest, v, upd_same, by rw [putK_len h6]; exact h2, by rw [valV_put, if_neg ne_wt]; exact h3, by rw [valV_put, if_neg ne_ct]; exact h4, by rw [valV_put, if_neg ne_rt]; exact h5,
    by rw [valV_put, if_pos rfl], by rw [upd_ne nl]; exact h7, by rw [upd_ne nc]; exact h8, h9, h10, h11, h12, hv, by omega, h15⟩, fun b o e n1 n2 => by rw [upd_ne n1]; exact e⟩
/-- a number drawn -/
def spMixed : Sp := fun vs H Q _ => ∃ a l c N, vs = [.ref a] ∧ Dr a l c N H ∧ N < 1000000 ∧ ∀ v H', 0 ≤ v → Dr a l c (N + 1) H' → ExD a l H H' → Q (.int v) H'
def spTake : Sp := fun vs H Q _ => ∃ a l c N size, vs = [.ref a, .int size] ∧ Dr a l c N H ∧ N < 1000000 ∧ 0 < size ∧ size < 100000 ∧ ∀ v H', 0 ≤ v → v < size → Dr a l c (N + 1) H' → ExD a l H H' → Q (.int v) H'
section
variable {P : Program} {w : World} {K : PySem.W.Frag} {mg : Str → Option Value} {base : Heap} {f : Addr} {fd : FuncData} {aK : Addr} {tk : Tk}
theorem mulL {i : Int} (h0 : 0 ≤ i) (h1 : i < 2 ^ 40) (j : Int) : CMul i j := Or.inl ⟨by omega, by omega⟩
theorem ok__law_mixed (F : Fun K "_law_mixed" "_law_mixed" s__law_mixed f fd) (T : Tx K mg aK tk) : FnOk P w K mg base CX0 1 f fd ["draw"] spMixed := by
  refine F.ok sc__law_mixed (fun vs H Q E h => ?_) (fun cdv A outer s H vs Q E hr h => ?_)
  · obtain ⟨a, l, c, N, rfl, _⟩ := h
    rfl
  · obtain ⟨a, l, c, N, rfl, hD, hN, q⟩ := h
    have hu := hu_of hr
    refine ⟨_, (pss_cons (ps_par (i := 1) (j := 2) (by rfl) sc__law_mixed.nd rfl rfl (by decide) rfl rfl (pa_cons (pe_op op_add (pe_dget hu (pv 0) pe_str (fun _ _ => rfl)) pe_int) (pa_cons pe_int pa_nil)) (by rfl))
      (pss_cons (ps_dput hu (pv 0) pe_str (pv 1) rfl)
      (pss_cons (ps_for PassesOwn.never rfl (piLst (K := K) rfl (pe_lst (pa_cons pe_int (pa_cons pe_int (pa_cons pe_int (pa_cons pe_int pa_nil)))))) (pg_name (i := 3) sc__law_mixed.nd rfl (Or.inl rfl))
        (pss_cons (ps_set (i := 4) sc__law_mixed.nd rfl (Or.inl rfl) (pe_op op_add (pe_op op_mul pe_int (pv 1)) (pe_op op_fdiv (pv 3) pe_int)))
      (pss_cons (ps_for PassesOwn.never rfl (piLst (K := K) rfl (pe_dget hu (pv 0) pe_str (fun _ _ => rfl))) (pg_name (i := 5) sc__law_mixed.nd rfl (Or.inl rfl))
        (pss_one (ps_set (i := 4) sc__law_mixed.nd rfl (Or.inl rfl) (pe_op op_mod (pe_callTy call_int1 (by rfl) T.int (by decide +kernel) (pa_cons (pe_op op_add (pe_op op_add (pe_op op_mul (pv 4) pe_int) (pv 5)) (pv 1)) pa_nil)) (pv 3)))))
      (pss_one (ps_set (i := 2) sc__law_mixed.nd rfl (Or.inl rfl) (pe_op op_add (pe_op op_mul (pv 2) pe_int) (pe_op op_mod (pe_callTy call_int1 (by rfl) T.int (by decide +kernel) (pa_cons (pe_op op_pow (pv 4) pe_int) pa_nil)) (pv 3))))))))
      (pss_one (ps_ret (pv 2)))))), ?_⟩
    obtain ⟨kvs, lg, cs, rest, turn, h1, h2, h3, h4, h5, h6, h7, h8, h9, h10, h11, h12, h13, h14, h15, h16⟩ := hD.ex
    -- turn, found = draw['turn'] + 1, 0
    have hturn : Ev (tDGet (tVar 0) (tC (.str "turn"))) [some (.ref a), none, none, none, none, none] H (.int turn) := ev_dget (k := kTurn) (ev_var rfl) (ev_c (v := kV kTurn)) h1 h6
    refine q_par (ea_cons (ev_add hturn (ev_c (v := .int 1))) (ea_cons (ev_c (v := .int 0)) ea_nil)) fun H1 e1 => ?_
    -- draw['turn'] = turn
    refine q_dput (σ := [some (.ref a), some (.int (turn + 1)), some (.int 0), none, none, none]) (a := a) (k := kTurn) (v := .int (turn + 1)) (ev_var rfl) (ev_var rfl) (ev_c (v := kV kTurn)) fun H1' e1' => ?_
    have e11 := e1.trans e1'
    obtain ⟨kv2, g1, g2, g3, g4⟩ := (hD.mono e11).turn (v := turn + 1) (by omega) (by omega)
    refine ⟨kv2, g1, g2, ?_⟩
    generalize upd H1' a (.dK (putK kv2 kTurn (.int (turn + 1)))) = H2 at g3 g4
    obtain ⟨kv4, lg4, cs4, rest4, turn4, k1, k2, k3, k4, k5, k6, k7, k8, k9, k10, k11, k12⟩ := g3.ex
    -- the primes
    refine q_forQL (eql_of (el_lst (ea_cons (ev_c (v := .int 2147483647)) (ea_cons (ev_c (v := .int 2147483629)) (ea_cons (ev_c (v := .int 2147483587)) (ea_cons (ev_c (v := .int 2147483579)) ea_nil)))) (by show 4 ≤ 100000; omega)))
      (fun i σ' H' => ∃ (fo : Int) (y3 y4 y5 : Option V), σ' = [some (.ref a), some (.int (turn + 1)), some (.int fo), y3, y4, y5] ∧ 0 ≤ fo) (fun H3 _ => ⟨0, none, none, none, rfl, Int.le_refl 0⟩) ?_ ?_
    · rintro i x σ' H3 H' N' e3 hx e3' ⟨fo, y3, y4, y5, rfl, hfo⟩ hN'
      have e := e3.trans e3'
      obtain ⟨pr, rfl, hpr0, hpr1⟩ : ∃ pr : Int, x = .int pr ∧ 0 < pr ∧ pr < 2 ^ 32 := by
        have hm := List.mem_of_getElem? hx
        simp only [List.mem_cons, List.not_mem_nil, or_false] at hm
        rcases hm with rfl | rfl | rfl | rfl
        · exact ⟨_, rfl, by decide, by decide⟩
        · exact ⟨_, rfl, by decide, by decide⟩
        · exact ⟨_, rfl, by decide, by decide⟩
        · exact ⟨_, rfl, by decide, by decide⟩
      -- blend
      refine q_asg (v := .int (48271 * (turn + 1) + pr / 37)) (σ := [some (.ref a), some (.int (turn + 1)), some (.int fo), some (.int pr), y4, y5]) (ev_add (ev_mul ev_c (ev_var rfl) (Or.inl ⟨by decide, by decide⟩)) (ev_fdiv (ev_var rfl) ev_c ⟨by decide, by decide⟩)) fun H5 e5 => ?_
      have hst0 : 0 ≤ 48271 * (turn + 1) + pr / 37 := by omega
      have hst1 : 48271 * (turn + 1) + pr / 37 < 2 ^ 60 := by omega
      generalize 48271 * (turn + 1) + pr / 37 = st at hst0 hst1
      -- for grain in draw['cells']
      refine q_forQL (σ := [some (.ref a), some (.int (turn + 1)), some (.int fo), some (.int pr), some (.int st), y5]) (xs := cs4.map V.int) (eql_ev (ev_dget (k := kCells) (ev_var rfl) (ev_c (v := kV kCells)) ((e.trans e5) _ _ k1) k4) (sq_of ((e.trans e5) _ _ k8)))
        (fun i σ' H' => ∃ (st' : Int) (y5' : Option V), σ' = [some (.ref a), some (.int (turn + 1)), some (.int fo), some (.int pr), some (.int st'), y5'] ∧ 0 ≤ st' ∧ st' < 2 ^ 60) (fun H6 _ => ⟨st, y5, rfl, hst0, hst1⟩) ?_ ?_
      · rintro j y σ'' H6 H'' N'' e6 hy e6' ⟨st', y5', rfl, s0, s1⟩ hN''
        obtain ⟨ce, hce, rfl⟩ := map_at hy
        have hce0 := k11 ce (List.mem_of_getElem? hce)
        refine s_asg (v := .int ((st' * 69621 + ce + (turn + 1)) % pr)) (σ := [some (.ref a), some (.int (turn + 1)), some (.int fo), some (.int pr), some (.int st'), some (.int ce)]) (ev_mod (ev_int (ev_add (ev_add (ev_mul (ev_var rfl) ev_c (Or.inr ⟨by decide, by decide⟩)) (ev_var rfl)) (ev_var rfl))) (ev_var rfl) hpr0) fun H7 e7 => ?_
        refine hN'' _ _ e7 ⟨_, _, rfl, Int.emod_nonneg _ (by omega), ?_⟩
        have := Int.emod_lt_of_pos (st' * 69621 + ce + (turn + 1)) hpr0
        omega
      · rintro σ'' H'' e6 ⟨st', y5', rfl, s0, s1⟩
        -- found
        refine s_asg (v := .int (fo * 2147483647 + st' ^ (5 : Int).toNat % pr)) (ev_add (ev_mul (ev_var rfl) ev_c (Or.inr ⟨by decide, by decide⟩)) (ev_mod (ev_int (ev_pow (ev_var rfl) ev_c ⟨by decide, by decide, by omega⟩)) (ev_var rfl) hpr0)) fun H7 e7 => ?_
        refine hN' _ _ ((e5.trans e6).trans e7) ⟨_, _, _, _, rfl, ?_⟩
        have := Int.emod_nonneg (st' ^ (5 : Int).toNat) (show pr ≠ 0 by omega)
        omega
    · rintro σ' H' e ⟨fo, y3, y4, y5, rfl, hfo⟩
      refine s_ret (v := .int fo) (ev_var rfl) fun H4 e4 => ?_
      have e24 := e.trans e4
      exact q fo H4 hfo (g3.mono e24) (((ExD.of e11).trans g4).trans (ExD.of e24))
end
end NQ
namespace NQ
open PySem PySem.Spec PyProof.Rows L2 Evl
theorem ExD.dK {a l b : Addr} {H H' : Hp} {xs : List V} (e : ExD a l H H') (h : H b = some (.tup xs)) {kvs : List (Key × V)} {ys : List V} (ha : H a = some (.dK kvs)) (hl : H l = some (.lst ys)) : H' b = some (.tup xs) :=
  e b _ h (ne_of h ha (by intro z; cases z)) (ne_of h hl (by intro z; cases z))
section
variable {P : Program} {w : World} {K : PySem.W.Frag} {mg : Str → Option Value} {base : Heap} {f : Addr} {fd : FuncData} {aK : Addr} {tk : Tk}
theorem ok__law_take (F : Fun K "_law_take" "_law_take" s__law_take f fd) (T : Tx K mg aK tk) (c__law_mixed : Cal P w K mg base CX0 1 "_law_mixed" ["draw"] spMixed) : FnOk P w K mg base CX0 2 f fd ["draw", "many"] spTake := by
  refine F.ok sc__law_take (fun vs H Q E h => ?_) (fun cdv A outer s H vs Q E hr h => ?_)
  · obtain ⟨a, l, c, N, size, rfl, _⟩ := h
    rfl
  · obtain ⟨a, l, c, N, size, rfl, hD, hN, s0, s1, q⟩ := h
    have hu := hu_of hr
    refine ⟨_, (pss_cons (ps_if (pt_cmpR op_eq (pe_dget hu (pv 0) pe_str (fun _ _ => rfl)) pe_int (nomark _))
        (pss_one (ps_dput hu (pv 0) pe_str (pe_ifExp (pt_cmpR (opNeD (K := K) rfl hr.units) (pe_dget hu (pv 0) pe_str (fun _ _ => rfl)) (pe_lst pa_nil) (nomark _)) (pe_bm PySem.F.plainAttrs_list PySem.F.slot_list_pop PySem.F.type_list_pop mt_popAt (pe_dget hu (pv 0) pe_str (fun _ _ => rfl)) (pa_cons pe_int pa_nil)) (pe_cl c__law_mixed hr (by decide) (by rfl) (pa_cons (pv 0) pa_nil))) rfl))
        pss_nil)
      (pss_cons (ps_set (i := 2) sc__law_take.nd rfl (Or.inl rfl) (pe_op op_mod (pe_callTy call_int1 (by rfl) T.int (by decide +kernel) (pa_cons (pe_dget hu (pv 0) pe_str (fun _ _ => rfl)) pa_nil)) (pv 1)))
      (pss_cons (ps_dput hu (pv 0) pe_str (pe_op op_fdiv (pe_dget hu (pv 0) pe_str (fun _ _ => rfl)) (pv 1)) rfl)
      (pss_one (ps_ret (pv 2)))))), ?_⟩
    -- what follows the if
    have fin : ∀ (H2 : Hp) (t : TS), Dr a l c (N + 1) H2 → ExD a l H H2 → tSeq (tAsg (tOp (rI (fun _ j => 0 < j) fun i j => .int (i % j)) (tCB (fun xs H Q => (∃ i, xs = [.int i] ∧ Q (.int i) H) ∨ ∃ k, xs = [.bl k] ∧ Q (.int (if k then 1 else 0)) H) (tCons (tDGet (tVar 0) (tC (.str "rest"))) tNil)) (tVar 1)) (gName 2))
        (tSeq (sDPut (tVar 0) (tC (.str "rest")) (tOp (rI CDiv fun i j => .int (i / j)) (tDGet (tVar 0) (tC (.str "rest"))) (tVar 1))) (tRet (tVar 2)))
        { nx := fun _ H' => Q .non H', rt := Q } [some (.ref a), some (.int size), none] H2 := fun H2 _ d2 e2 => by
      obtain ⟨kvs, lg, cs, rest, turn, h1, h2, h3, h4, h5, h6, h7, h8, h9, h10, h11, h12, h13⟩ := d2.ex
      have hget : ∀ (H3 : Hp) (y : Option V), Ex H2 H3 → Ev (tDGet (tVar 0) (tC (.str "rest"))) [some (.ref a), some (.int size), y] H3 (.int rest) := fun H3 y e => ev_dget (k := kRest) (ev_var rfl) (ev_c (v := kV kRest)) (e _ _ h1) h5
      refine q_asg (v := .int (rest % size)) (ev_mod (ev_int (hget H2 none (Ex.refl _))) (ev_var rfl) s0) fun H3 e3 => ?_
      refine q_dput (σ := [some (.ref a), some (.int size), some (.int (rest % size))]) (a := a) (k := kRest) (v := .int (rest / size)) (ev_fdiv (hget H3 _ e3) (ev_var rfl) ⟨s0, by omega⟩) (ev_var rfl) (ev_c (v := kV kRest)) fun H4 e4 => ?_
      have e24 := e3.trans e4
      obtain ⟨kv5, g1, g2, g3, g4⟩ := (d2.mono e24).rest (v := rest / size) (Int.ediv_nonneg h12 (by omega))
      refine ⟨kv5, g1, g2, ?_⟩
      refine s_ret (v := .int (rest % size)) (ev_var rfl) fun H5 e5 => ?_
      exact q _ H5 (Int.emod_nonneg _ (by omega)) (Int.emod_lt_of_pos _ s0) (g3.mono e5) (((e2.trans (ExD.of e24)).trans g4).trans (ExD.of e5))
    obtain ⟨kvs, lg, cs, rest, turn, h1, h2, h3, h4, h5, h6, h7, h8, h9, h10, h11, h12, h13, h14, h15, h16⟩ := hD.ex
    have hrest : Ev (tDGet (tVar 0) (tC (.str "rest"))) [some (.ref a), some (.int size), none] H (.int rest) := ev_dget (k := kRest) (ev_var rfl) (ev_c (v := kV kRest)) h1 h5
    refine (et_test (ev_op hrest ev_c (rv_eq rfl))) H (Ex.refl H) _ fun H1 e1 => ?_
    by_cases hz : rest = 0
    · rw [decide_eq_true (show V.int rest = V.int 0 by rw [hz]), if_pos rfl]
      have d1 := hD.mono e1
      -- the value
      have hlarge : ∀ (H3 : Hp), Ex H1 H3 → Ev (tDGet (tVar 0) (tC (.str "wide"))) [some (.ref a), some (.int size), none] H3 (.ref l) := fun H3 e => ev_dget (k := kWide) (ev_var rfl) (ev_c (v := kV kWide)) ((e1.trans e) _ _ h1) h3
      have stored : ∀ (G : Hp → Prop), (∀ H4, Dr a l c (N + 1) H4 → ExD a l H H4 → G H4) → ∀ (v : Int) (H3 : Hp), 0 ≤ v → Dr a l c (N + 1) H3 → ExD a l H H3 →
          (tVar 0 [some (.ref a), some (.int size), none] H3 fun x H2 => (tC (.str "rest")) [some (.ref a), some (.int size), none] H2 fun y H3 => ∃ a' H4, x = .ref a' ∧ DPut H3 a' y (.int v) H4 ∧ G H4) := fun G hG v H3 hv d3 e3 => by
        refine ⟨.ref a, rfl, ?_⟩
        obtain ⟨kv5, g1, g2, g3, g4⟩ := d3.rest hv
        exact ⟨a, _, rfl, DPut.k (k := kRest) g1 g2, hG _ g3 (e3.trans g4)⟩
      refine (et_test (ev_neNil (ds := lg.map PyData.int) (hlarge H1 (Ex.refl _)) (e1 _ _ h7) (dp_ints _ lg) (fun _ _ => dp_ints _ lg) (shaped_ints lg))) H1 (Ex.refl _) _ fun H2 e2 => ?_
      cases lg with
      | nil =>
        rw [show (!(([] : List Int).map V.int).isEmpty) = false from rfl, if_neg Bool.false_ne_true]
        -- blend
        refine ⟨.ref a, rfl, a, l, c, N, rfl, d1.mono e2, hN, fun v H3 hv d3 e3 => stored _ (fun H4 d e => fin H4 tNext d e) v H3 hv d3 ((ExD.of (e1.trans e2)).trans e3)⟩
      | cons x0 lr =>
        rw [show (!((x0 :: lr).map V.int).isEmpty) = true from rfl, if_pos rfl]
        -- pop(0)
        refine hlarge H1 (Ex.refl _) H2 e2 _ fun H3 e3 => ?_
        have e13 := (e1.trans e2).trans e3
        refine ⟨Or.inl ⟨rfl, _, sq_of (e13 _ _ h7)⟩, ?_⟩
        refine ⟨l, _, 0, 0, .int x0, rfl, rfl, e13 _ _ h7, by decide, by decide, ?_, rfl, ?_⟩
        · unfold seqIndex?
          rw [List.map_cons, List.length_cons]
          simp
        · have nal : a ≠ l := ne_of h1 h7 (by intro z; cases z)
          have e4 : ExD a l H (upd H3 l (.lst (((x0 :: lr).map V.int).eraseIdx 0))) := (ExD.of e13).trans fun b o hb n1 n2 => by rw [upd_ne n2]; exact hb
          refine stored _ (fun H4 d e => fin H4 tNext d e) x0 _ (h10 x0 List.mem_cons_self) ⟨kvs, lr, cs, rest, turn, by rw [upd_ne nal]; exact e13 _ _ h1, h2, h3, h4, h5, h6, upd_same, by rw [upd_ne (Ne.symm h9)]; exact e13 _ _ h8, h9, fun x hx => h10 x (List.mem_cons_of_mem _ hx), h11, h12, h13, by omega, ?_, h16⟩ e4
          rw [List.length_cons] at h15
          omega
    · rw [decide_eq_false (show ¬ V.int rest = V.int 0 from fun e => hz (V.int.inj e)), if_neg Bool.false_ne_true]
      exact fin H1 tNext ((hD.mono e1).up (by omega)) (ExD.of e1)
end
end NQ
namespace NQ
open PySem PySem.Spec PyProof.Rows L2 Evl
/-! ### pick, shuffled, names -/
/-- a thing that stands: a list or a tuple that is not the draws' own -/
def Stood (a l : Addr) (p : Addr) (xs : List V) (H : Hp) : Prop := (H p = some (.lst xs) ∨ H p = some (.tup xs)) ∧ p ≠ a ∧ p ≠ l
theorem Stood.exD {a l p : Addr} {xs : List V} {H H' : Hp} (h : Stood a l p xs H) (e : ExD a l H H') : Stood a l p xs H' := by
  obtain ⟨h1, h2, h3⟩ := h
  rcases h1 with h1 | h1
  · exact ⟨.inl (e p _ h1 h2 h3), h2, h3⟩
  · exact ⟨.inr (e p _ h1 h2 h3), h2, h3⟩
theorem Stood.seq {K : PySem.W.Frag} {a l p : Addr} {xs : List V} {H : Hp} (h : Stood a l p xs H) : SqL K H p xs ∨ SqT K H p xs := by
  obtain ⟨h1 | h1, _⟩ := h
  · exact .inl (sq_of h1)
  · exact .inr (st_of h1)
theorem at_nat {xs : List Nat} {i : Nat} {c : Nat} (h : xs[i]? = some c) : atI xs (i : Int) = some c := by
  unfold atI
  rw [ixN_nat (List.getElem?_eq_some_iff.mp h).1]
  exact h
def rLenA (K : PySem.W.Frag) : List V → Hp → VK → Prop := fun xs H Q => rLenS K xs H Q ∨ ∃ z : Str, xs = [.str z] ∧ z.length ≤ sizeLine ∧ Q (.int z.length) H
theorem crLenA {X : Cx} {K : PySem.W.Frag} (e : X.K = K) : CallR X (.builtin "len") (rLenA K) := by
  subst e
  intro pins s σ H xs us Q I r h
  rcases h with h | h
  · exact call_len_seq pins s σ H xs us Q I r h
  · exact call_len_str pins s σ H xs us Q I r h
/-- what is picked of: a list, a tuple, a text -/
def PickOf (a l : Addr) (v : V) (xs : List V) (H : Hp) : Prop := (∃ p, v = .ref p ∧ Stood a l p xs H) ∨ ∃ z : Str, v = .str z ∧ xs = z.cps.toList.map fun c => V.str ⟨#[c]⟩
def spPick : Sp := fun vs H Q _ => ∃ (a l c : Addr) (N : Nat) (v : V) (xs : List V), vs = [.ref a, v] ∧ Dr a l c N H ∧ N < 1000000 ∧ PickOf a l v xs H ∧ 0 < xs.length ∧ xs.length < 100000 ∧ ∀ x H', x ∈ xs → Dr a l c (N + 1) H' → ExD a l H H' → Q x H'
def spShuf : Sp := fun vs H Q _ => ∃ (a l c : Addr) (N : Nat) (p : Addr) (zs : List Str), vs = [.ref a, .ref p] ∧ Dr a l c N H ∧ N + 1000 < 1000000 ∧ Stood a l p (zs.map V.str) H ∧ zs.length ≤ 100 ∧ (∀ z ∈ zs, PyData.strOk z = true) ∧
  ∀ (q : Addr) (ys : List Str) (H' : Hp), ys.Perm zs → Dr a l c (N + zs.length) H' → ExD a l H H' → H q = none → H' q = some (.lst (ys.map V.str)) → Q (.ref q) H'
section
variable {K : PySem.W.Frag} {σ : L2.St} {H H' : Hp} {ta tb te tx td ty : TE} {t u : TT} {x y z v : V} {tr : TA} {D : Ends} {tz : TS}
/-- a draw -/
theorem do_take {a l c : Addr} {N : Nat} {size : Int} {E : XK} {tu : TA} (h : EvA tu σ H [.ref a, .int size]) (hD : Dr a l c N H) (hN : N < 1000000) (h0 : 0 < size) (h1 : size < 100000) {Q : VK} {H1 : Hp} (e : Ex H H1)
    (q : ∀ v H2, 0 ≤ v → v < size → Dr a l c (N + 1) H2 → ExD a l H1 H2 → Q (.int v) H2) : tCall spTake [] E tu σ H1 Q := by
  refine h H1 e _ fun H2 e2 => ?_
  exact ⟨a, l, c, N, size, rfl, hD.mono (e.trans e2), hN, h0, h1, fun v H3 v0 v1 d3 e3 => q v H3 v0 v1 d3 ((ExD.of e2).trans e3)⟩
end
section
variable {P : Program} {w : World} {K : PySem.W.Frag} {mg : Str → Option Value} {base : Heap} {f : Addr} {fd : FuncData} {aK : Addr} {tk : Tk}
theorem ok__law_pick (F : Fun K "_law_pick" "_law_pick" s__law_pick f fd) (T : Tx K mg aK tk) (c__law_take : Cal P w K mg base CX0 2 "_law_take" ["draw", "many"] spTake) : FnOk P w K mg base CX0 3 f fd ["draw", "some"] spPick := by
  refine F.ok sc__law_pick (fun vs H Q E h => ?_) (fun cdv A outer s H vs Q E hr h => ?_)
  · obtain ⟨a, l, c, N, p, xs, rfl, _⟩ := h
    rfl
  · obtain ⟨a, l, c, N, v0, xs, rfl, hD, hN, hp, x0, x1, q⟩ := h
    have hu := hu_of hr
    refine ⟨_, (pss_one (ps_ret (pe_ix (ixS (K := K) rfl) (pv 1) (pe_cl c__law_take hr (by decide) (by rfl) (pa_cons (pv 0) (pa_cons (pe_callB (crLenA (K := K) rfl) (by rfl) T.len (by decide +kernel) (pa_cons (pv 1) pa_nil)) pa_nil))) (fun _ _ => rfl)))), ?_⟩
    refine ⟨v0, rfl, ?_⟩
    have hlen : Ev (tCB (rLenA K) (tCons (tVar 1) tNil)) [some (.ref a), some v0] H (.int (xs.length : Int)) := fun H1 e1 Q q => by
      refine ⟨v0, rfl, ?_⟩
      rcases hp with ⟨p, rfl, hp⟩ | ⟨z, rfl, rfl⟩
      · exact Or.inl ⟨p, xs, rfl, (hp.exD (ExD.of e1)).seq, q H1 (Ex.refl _)⟩
      · refine Or.inr ⟨z, rfl, sz_of (by rw [List.length_map] at x1; exact Nat.le_of_lt x1), ?_⟩
        rw [List.length_map] at q
        exact q H1 (Ex.refl _)
    refine do_take (H := H) (size := (xs.length : Int)) (ea_cons (ev_var rfl) (ea_cons hlen ea_nil)) hD hN (by omega) (by omega) (Ex.refl H) fun v H2 v0 v1 d2 e2 => ?_
    obtain ⟨i, rfl⟩ := Int.eq_ofNat_of_zero_le v0
    obtain ⟨x, hx, hat⟩ := atI_mem (xs := xs) (i := i) (by omega)
    rcases hp with ⟨p, rfl, hp⟩ | ⟨z, rfl, rfl⟩
    · have hs := hp.exD e2
      rcases hs.1 with h1 | h1
      · exact Or.inl ⟨p, xs, _, x, rfl, rfl, sq_of h1, hat, q x H2 hx d2 e2⟩
      · exact Or.inr (Or.inl ⟨p, xs, _, x, rfl, rfl, st_of h1, hat, q x H2 hx d2 e2⟩)
    · rw [List.length_map] at x1 v1
      have hi : i < z.cps.toList.length := by omega
      have hx2 : x = V.str ⟨#[z.cps.toList[i]]⟩ := by
        have h3 := at_of (xs := z.cps.toList.map fun c => V.str ⟨#[c]⟩) (j := i) rfl (by rw [List.getElem?_map, List.getElem?_eq_getElem hi]; rfl)
        rw [hat] at h3
        exact Option.some.inj h3
      refine Or.inr (Or.inr ⟨z, _, z.cps.toList[i], rfl, rfl, sz_of (Nat.le_of_lt x1), at_nat (List.getElem?_eq_getElem hi), ?_⟩)
      rw [← hx2]
      exact q x H2 hx d2 e2
theorem ok__law_shuffled (F : Fun K "_law_shuffled" "_law_shuffled" s__law_shuffled f fd) (T : Tx K mg aK tk) (c__law_take : Cal P w K mg base CX0 2 "_law_take" ["draw", "many"] spTake) : FnOk P w K mg base CX0 3 f fd ["draw", "some"] spShuf := by
  refine F.ok sc__law_shuffled (fun vs H Q E h => ?_) (fun cdv A outer s H vs Q E hr h => ?_)
  · obtain ⟨a, l, c, N, p, zs, rfl, _⟩ := h
    rfl
  · obtain ⟨a, l, c, N, p, zs, rfl, hD, hN, hp, x1, hok, q⟩ := h
    have hu := hu_of hr
    refine ⟨_, (pss_cons (ps_par (i := 2) (j := 3) (by rfl) sc__law_shuffled.nd rfl rfl (by decide) rfl rfl (pa_cons (pe_callTy (crList (K := K) rfl) (by rfl) T.list (by decide +kernel) (pa_cons (pv 1) pa_nil)) (pa_cons (pe_lst pa_nil) pa_nil)) (by rfl))
      (pss_cons (ps_while PassesOwn.never (pt_cmpR (opNeD (K := K) rfl hr.units) (pv 2) (pe_lst pa_nil) (nomark _))
        (pss_one (ps_expr (pe_bm PySem.F.plainAttrs_list PySem.F.slot_list_append PySem.F.type_list_append mt_append (pv 3) (pa_cons (pe_bm PySem.F.plainAttrs_list PySem.F.slot_list_pop PySem.F.type_list_pop mt_popAt (pv 2) (pa_cons (pe_cl c__law_take hr (by decide) (by rfl) (pa_cons (pv 0) (pa_cons (pe_callB (crLen (K := K) rfl) (by rfl) T.len (by decide +kernel) (pa_cons (pv 2) pa_nil)) pa_nil))) pa_nil)) pa_nil)))))
      (pss_one (ps_ret (pv 3))))), ?_⟩
    -- left, found = list(some), []
    refine ⟨.ref p, rfl, p, _, rfl, hp.seq, fun lf hlf => ?_⟩
    refine ⟨Nat.zero_le _, fun fo hfo => ?_⟩
    have e1 : Ex H (upd H lf (.lst (zs.map V.str))) := Ex.new hlf
    have e2 := e1.trans (Ex.new (o := .lst []) hfo)
    have nlf : lf ≠ fo := ne_of_none upd_same hfo
    have nfo : H fo = none := fresh_back e1 hfo
    obtain ⟨kvs, lg, cs, rest, turn, k1, k2, k3, k4, k5, k6, k7, k8⟩ := hD.ex
    have n1 : a ≠ lf := ne_of_none k1 hlf
    have n2 : l ≠ lf := ne_of_none k7 hlf
    have n3 : a ≠ fo := ne_of_none k1 nfo
    have n4 : l ≠ fo := ne_of_none k7 nfo
    refine ⟨.ref lf, .ref fo, rfl, ?_⟩
    have d2 := hD.mono e2
    have l2 : (upd (upd H lf (.lst (zs.map V.str))) fo (.lst [])) lf = some (.lst (zs.map V.str)) := by
      rw [upd_ne nlf]
      exact upd_same
    have f2 : (upd (upd H lf (.lst (zs.map V.str))) fo (.lst [])) fo = some (.lst []) := upd_same
    generalize (upd (upd H lf (.lst (zs.map V.str))) fo (.lst [])) = H2 at e2 d2 l2 f2
    -- while
    refine ⟨fun m σ' H' => ∃ ls fs : List Str, σ' = [some (.ref a), some (.ref p), some (.ref lf), some (.ref fo)] ∧ ls.length = m ∧ (fs ++ ls).Perm zs ∧ H' lf = some (.lst (ls.map V.str)) ∧ H' fo = some (.lst (fs.map V.str)) ∧ Dr a l c (N + fs.length) H' ∧ ExD a l H H', ⟨zs.length, zs, [], rfl, rfl, List.Perm.refl _, l2, f2, d2, ExD.of e2⟩, fun m σ' H' hW => ?_⟩
    obtain ⟨ls, fs, rfl, hm, hperm, hl, hf, hd, he⟩ := hW
    have hlen := hperm.length_eq
    rw [List.length_append] at hlen
    have lok : ∀ z ∈ ls, PyData.strOk z = true := fun z hz => hok z (hperm.mem_iff.mp (List.mem_append_right _ hz))
    refine (et_test (ev_neNil (K := K) (ds := ls.map PyData.str) (ev_var rfl) hl (dp_strs _ ls) (fun _ _ => dp_strs _ ls) (shaped_strs lok))) H' (Ex.refl _) _ fun H3 e3 => ?_
    cases ls with
    | nil =>
      rw [show (!(([] : List Str).map V.str).isEmpty) = false from rfl, if_neg Bool.false_ne_true]
      rw [List.append_nil] at hperm
      refine s_ret (v := .ref fo) (ev_var rfl) fun H4 e4 => ?_
      have e34 := e3.trans e4
      exact q fo fs H4 hperm ((hd.mono e34).up (by rw [hperm.length_eq]; exact Nat.le_refl _)) (he.trans (ExD.of e34)) nfo (e34 _ _ hf)
    | cons z0 lr =>
      rw [show (!((z0 :: lr).map V.str).isEmpty) = true from rfl, if_pos rfl]
      refine ⟨fun σ4 H4 => ∃ m', m' < m ∧ ∃ ls fs : List Str, σ4 = [some (.ref a), some (.ref p), some (.ref lf), some (.ref fo)] ∧ ls.length = m' ∧ (fs ++ ls).Perm zs ∧ H4 lf = some (.lst (ls.map V.str)) ∧ H4 fo = some (.lst (fs.map V.str)) ∧ Dr a l c (N + fs.length) H4 ∧ ExD a l H H4, fun σ4 H4 h4 => h4, ?_⟩
      -- found.append(left.pop(draw))
      have hl3 := e3 _ _ hl
      have hf3 := e3 _ _ hf
      refine ⟨.ref fo, rfl, Or.inl ⟨rfl, _, sq_of hf3⟩, .ref lf, rfl, Or.inl ⟨rfl, _, sq_of hl3⟩, ?_⟩
      rw [List.length_cons] at hlen
      refine do_take (H := H3) (size := (((z0 :: lr).map V.str).length : Int)) (ea_cons (ev_var rfl) (ea_cons (ev_len (ev_var rfl) (sq_of hl3)) ea_nil)) (hd.mono e3) (by omega) (by rw [List.length_map, List.length_cons]; omega) (by rw [List.length_map, List.length_cons]; omega) (Ex.refl _) fun v H5 v0 v1 d5 e5 => ?_
      obtain ⟨i, rfl⟩ := Int.eq_ofNat_of_zero_le v0
      rw [List.length_map] at v1
      have hi : i < (z0 :: lr).length := by omega
      have hl5 : H5 lf = some (.lst ((z0 :: lr).map V.str)) := e5 _ _ hl3 (Ne.symm n1) (Ne.symm n2)
      have hf5 : H5 fo = some (.lst (fs.map V.str)) := e5 _ _ hf3 (Ne.symm n3) (Ne.symm n4)
      have hi2 : i < 100 := by
        rw [List.length_cons] at hi
        omega
      refine ⟨lf, _, (i : Int), i, .str (z0 :: lr)[i], rfl, rfl, hl5, by omega, by omega, ?_, ?_, ?_⟩
      · rw [List.length_map]
        exact seqIx hi
      · rw [List.getElem?_map, List.getElem?_eq_getElem hi]
        rfl
      · have hf6 : (upd H5 lf (.lst (((z0 :: lr).map V.str).eraseIdx i))) fo = some (.lst (fs.map V.str)) := by
          rw [upd_ne (Ne.symm nlf)]
          exact hf5
        refine ⟨fo, _, _, rfl, rfl, hf6, ?_, ?_⟩
        · rw [List.length_map]
          exact small1000 (by omega)
        · have hle : ((z0 :: lr).eraseIdx i).length = lr.length := by
            rw [List.length_eraseIdx_of_lt hi, List.length_cons]
            omega
          refine ⟨lr.length, by rw [← hm, List.length_cons]; omega, (z0 :: lr).eraseIdx i, fs ++ [(z0 :: lr)[i]], rfl, hle, ?_, ?_, ?_, ?_, ?_⟩
          · refine List.Perm.trans ?_ hperm
            rw [List.append_assoc]
            refine List.Perm.append_left fs ?_
            exact erase_perm _ hi
          · rw [upd_ne nlf, upd_same]
            congr 2
            exact map_erase _ _ _
          · rw [upd_same, List.map_append]
            rfl
          · have dd : Dr a l c (N + fs.length + 1) (upd (upd H5 lf (.lst (((z0 :: lr).map V.str).eraseIdx i))) fo (.lst (fs.map V.str ++ [.str (z0 :: lr)[i]]))) := by
              obtain ⟨kvs5, lg5, cs5, rest5, turn5, j1, j2, j3, j4, j5, j6, j7, j8, j9⟩ := d5.ex
              obtain ⟨_, _, _, _, _, _, _, _, _, _, _, _, c8, _⟩ := hD.ex
              have n5 : c ≠ lf := ne_of_none k8.1 hlf
              have n6 : c ≠ fo := ne_of_none k8.1 nfo
              exact ⟨kvs5, lg5, cs5, rest5, turn5, by rw [upd_ne n3, upd_ne n1]; exact j1, j2, j3, j4, j5, j6, by rw [upd_ne n4, upd_ne n2]; exact j7, by rw [upd_ne n6, upd_ne n5]; exact j8, j9⟩
            rw [List.length_append]
            exact dd
          · intro b o hb nb1 nb2
            rw [upd_ne (ne_of_none hb nfo), upd_ne (ne_of_none hb hlf)]
            exact ((he.trans (ExD.of e3)).trans e5) b o hb nb1 nb2
end
end NQ
namespace NQ
open PySem PySem.Spec PyProof.Rows L2 Evl
def spBegun (K : PySem.W.Frag) : Sp := fun vs H Q _ => ∃ (s : Addr) (ns : List Int), vs = [.ref s] ∧ SqL K H s (ns.map V.int) ∧ ns.length ≤ 63 ∧ ∀ (a l c : Addr) (H' : Hp), Ex H H' → Dr a l c 0 H' → H a = none → H l = none → Q (.ref a) H'
section
variable {P : Program} {w : World} {K : PySem.W.Frag} {mg : Str → Option Value} {base : Heap} {f : Addr} {fd : FuncData} {aK : Addr} {tk : Tk}
theorem ok__law_begun (F : Fun K "_law_begun" "_law_begun" s__law_begun f fd) (T : Tx K mg aK tk) : FnOk P w K mg base CX0 1 f fd ["script"] (spBegun K) := by
  refine F.ok sc__law_begun (fun vs H Q E h => ?_) (fun cdv A outer s H vs Q E hr h => ?_)
  · obtain ⟨s0, ns, rfl, _⟩ := h
    rfl
  · obtain ⟨s0, ns, rfl, hS, hlen, q⟩ := h
    have hu := hu_of hr
    refine ⟨_, (pss_cons (ps_setLc (i := 1) (own := [("grain", 2)]) rfl sc__law_begun.nd rfl rfl (sw_true rfl rfl rfl (by decide +kernel)) (piLst (K := K) rfl (pv 0)) (blkOk_by (own := [("grain", 2)]) (N := N__law_begun) (sc := defScope s__law_begun) (by decide +kernel)) (fun _ _ _ _ _ => (pg_name (i := 2) sc__law_begun.nd rfl (Or.inl rfl))) (fun _ _ _ _ _ => pts_one (pt_cmpR op_ge (pe_callB call_abs (by rfl) T.abs (by decide +kernel) (pa_cons (pv 2) pa_nil)) (pe_op op_pow pe_int pe_int) (nomark _))) (fun _ _ _ _ _ => (pe_op op_sub (pe_callB call_abs (by rfl) T.abs (by decide +kernel) (pa_cons (pv 2) pa_nil)) (pe_op op_pow pe_int pe_int))))
      (pss_one (ps_ret (pe_disp (pps_cons pe_str (pv 1) (pps_cons pe_str (pe_lc (own := [("grain", 2)]) rfl sc__law_begun.nd (piLst (K := K) rfl (pv 0)) (blkOk_by (own := [("grain", 2)]) (N := N__law_begun) (sc := defScope s__law_begun) (by decide +kernel)) (fun _ _ _ _ _ => (pg_name (i := 2) sc__law_begun.nd rfl (Or.inl rfl))) (fun _ _ _ _ _ => pts_nil) (fun _ _ _ _ _ => (pe_op op_mod (pe_callTy call_int1 (by rfl) T.int (by decide +kernel) (pa_cons (pe_callB call_abs (by rfl) T.abs (by decide +kernel) (pa_cons (pv 2) pa_nil)) pa_nil)) pe_int))) (pps_cons pe_str pe_int (pps_cons pe_str pe_int pps_nil)))) (by rfl) (by rfl) (fun z => by cases z) (by decide))))), ?_⟩
    have h18 : Ev (tOp (rI CPow fun i j => .int (i ^ j.toNat)) (tC (.int 10)) (tC (.int 18))) = Ev (tOp (rI CPow fun i j => .int (i ^ j.toNat)) (tC (.int 10)) (tC (.int 18))) := rfl
    have p18 : ∀ (σ : L2.St) (H : Hp), Ev (tOp (rI CPow fun i j => .int (i ^ j.toNat)) (tC (.int 10)) (tC (.int 18))) σ H (.int (10 ^ (18 : Int).toNat)) := fun σ H => ev_pow ev_c ev_c ⟨by decide, by decide, by decide⟩
    generalize (10 ^ (18 : Int).toNat : Int) = big at p18
    have absI : ∀ i : Int, (if i < 0 then -i else i) = (i.natAbs : Int) := fun i => by split <;> omega
    -- large
    have key := el_lcL (K := K) (te := tOp (rI0 fun i j => .int (i - j)) (tCB (fun xs H Q => ∃ i, xs = [.int i] ∧ Q (.int (if i < 0 then -i else i)) H) (tCons (tVar 2) tNil)) (tOp (rI CPow fun i j => .int (i ^ j.toNat)) (tC (.int 10)) (tC (.int 18))))
      (t := tTest (tOp (rI0 fun i j => .bl (decide (j ≤ i))) (tCB (fun xs H Q => ∃ i, xs = [.int i] ∧ Q (.int (if i < 0 then -i else i)) H) (tCons (tVar 2) tNil)) (tOp (rI CPow fun i j => .int (i ^ j.toNat)) (tC (.int 10)) (tC (.int 18)))))
      (σ := [some (.ref s0), none, none]) (H := H) (j := 2) (vs := [2]) (tl := tVar 0) (xs := ns.map V.int) (fun k => decide (big ≤ ((ns.getD k 0).natAbs : Int))) (fun k => .int (((ns.getD k 0).natAbs : Int) - big)) (ev_var rfl) hS (by rw [List.length_map]; omega) (fun _ => rfl)
      (fun k x H5 e5 hx => by
        obtain ⟨d, hd, rfl⟩ := map_at hx
        rw [show ns.getD k 0 = d by rw [List.getD_eq_getElem?_getD, hd]; rfl, ← absI d]
        exact et_test (ev_geV (ev_abs (ev_var rfl)) (p18 _ _)))
      (fun k x H5 e5 hx _ => by
        obtain ⟨d, hd, rfl⟩ := map_at hx
        rw [show ns.getD k 0 = d by rw [List.getD_eq_getElem?_getD, hd]; rfl, ← absI d]
        exact ev_sub (ev_abs (ev_var rfl)) (p18 _ _))
    rw [List.length_map, given_filter (0 : Int) (fun d => decide (big ≤ (d.natAbs : Int))) (fun d => V.int ((d.natAbs : Int) - big))] at key
    refine q_asgL key fun l H1 hl0 e1 hl => ?_
    have el : (ns.filter fun d => decide (big ≤ (d.natAbs : Int))).map (fun d => V.int ((d.natAbs : Int) - big)) = ((ns.filter fun d => decide (big ≤ (d.natAbs : Int))).map fun d => (d.natAbs : Int) - big).map V.int := by
      rw [List.map_map]
      rfl
    rw [el] at hl
    have hl2 : ((ns.filter fun d => decide (big ≤ (d.natAbs : Int))).map fun d => (d.natAbs : Int) - big).length ≤ 63 := by
      rw [List.length_map]
      exact Nat.le_trans (List.length_filter_le _ _) hlen
    have hl3 : ∀ x ∈ ((ns.filter fun d => decide (big ≤ (d.natAbs : Int))).map fun d => (d.natAbs : Int) - big), 0 ≤ x := fun x hx => by
      obtain ⟨d, hd, rfl⟩ := List.mem_map.mp hx
      have := of_decide_eq_true (List.mem_filter.mp hd).2
      omega
    generalize ((ns.filter fun d => decide (big ≤ (d.natAbs : Int))).map fun d => (d.natAbs : Int) - big) = lg at hl hl2 hl3
    -- cells
    have key2 : ∀ H2, Ex H1 H2 → EvL (tLc (iList K (tVar 0)) (gName 2) tYes (tOp (rI (fun _ j => 0 < j) fun i j => .int (i % j)) (tCB (fun xs H Q => (∃ i, xs = [.int i] ∧ Q (.int i) H) ∨ ∃ k, xs = [.bl k] ∧ Q (.int (if k then 1 else 0)) H) (tCons (tCB (fun xs H Q => ∃ i, xs = [.int i] ∧ Q (.int (if i < 0 then -i else i)) H) (tCons (tVar 2) tNil)) tNil)) (tC (.int 2147483629))) [2])
        [some (.ref s0), some (.ref l), none] H2 ((ns.map fun d => (d.natAbs : Int) % 2147483629).map V.int) := fun H2 e2 => by
      have z := el_lcL (K := K) (te := tOp (rI (fun _ j => 0 < j) fun i j => .int (i % j)) (tCB (fun xs H Q => (∃ i, xs = [.int i] ∧ Q (.int i) H) ∨ ∃ k, xs = [.bl k] ∧ Q (.int (if k then 1 else 0)) H) (tCons (tCB (fun xs H Q => ∃ i, xs = [.int i] ∧ Q (.int (if i < 0 then -i else i)) H) (tCons (tVar 2) tNil)) tNil)) (tC (.int 2147483629))) (t := tYes)
        (σ := [some (.ref s0), some (.ref l), none]) (H := H2) (j := 2) (vs := [2]) (tl := tVar 0) (xs := ns.map V.int) (fun _ => true) (fun k => .int (((ns.getD k 0).natAbs : Int) % 2147483629)) (ev_var rfl) (ex_l (e1.trans e2) hS) (by rw [List.length_map]; omega) (fun _ => rfl)
        (fun _ _ _ _ _ => et_yes)
        (fun k x H5 e5 hx _ => by
          obtain ⟨d, hd, rfl⟩ := map_at hx
          rw [show ns.getD k 0 = d by rw [List.getD_eq_getElem?_getD, hd]; rfl, ← absI d]
          exact ev_mod (ev_int (ev_abs (ev_var rfl))) ev_c (by decide))
      rw [List.length_map, given_map (0 : Int) (fun d => V.int ((d.natAbs : Int) % 2147483629)) ns] at z
      rw [List.map_map]
      exact z
    -- the dict
    intro a ha
    refine ⟨_, rfl, ?_⟩
    dsimp only [tPairs, tC]
    refine key2 _ (Ex.new ha) _ (Ex.refl _) _ fun c H2 hc0 e2 hc => ?_
    have ha2 : H2 a = some (.dK []) := e2 _ _ upd_same
    have x12 : Ex H1 H2 := (Ex.new ha).trans e2
    refine ⟨ha2, [(kWide, .ref l), (kCells, .ref c), (kRest, .int 0), (kTurn, .int 0)], rfl, (by simp only [List.length_cons, List.length_nil]; decide), ?_⟩
    have nd : ([(kWide, V.ref l), (kCells, V.ref c), (kRest, V.int 0), (kTurn, V.int 0)].map (·.1)).Nodup := (by decide +kernel : [kWide, kCells, kRest, kTurn].Nodup)
    have nal : l ≠ a := ne_of_none hl ha
    have nac : c ≠ a := fun e => by
      rw [e, upd_same] at hc0
      cases hc0
    have hl4 : H2 l = some (.lst (lg.map V.int)) := x12 _ _ hl
    have nlc : l ≠ c := fun e => by
      rw [← e, upd_ne nal, hl] at hc0
      cases hc0
    have x13 : Ex H1 (upd H2 a (.dK (mergeK [] [(kWide, V.ref l), (kCells, V.ref c), (kRest, V.int 0), (kTurn, V.int 0)]))) := Ex.mut x12 ha
    refine q a l c _ (e1.trans x13) ⟨_, lg, ns.map fun d => (d.natAbs : Int) % 2147483629, 0, 0, upd_same, ?_, valV_merge_get (i := 0) nd rfl, valV_merge_get (i := 1) nd rfl, valV_merge_get (i := 2) nd rfl, valV_merge_get (i := 3) nd rfl,
      by rw [upd_ne nal]; exact hl4, by rw [upd_ne nac]; exact hc, nlc, hl3, fun x hx => ?_, Int.le_refl 0, Int.le_refl 0, Int.le_refl 0, by omega, by rw [List.length_map]; omega⟩ (fresh_back e1 ha) hl0
    · exact Nat.le_trans (length_mergeK _ []) (by simp only [List.length_cons, List.length_nil]; decide)
    · obtain ⟨d, _, rfl⟩ := List.mem_map.mp hx
      exact Int.emod_nonneg _ (by decide)
end
end NQ
namespace NQ
open PySem PySem.Spec PyProof.Rows L2 Evl NM
/-! ### texts as lists of codes -/
abbrev sL (l : List Nat) : Str := ⟨l.toArray⟩
abbrev chrV (c : Nat) : V := .str ⟨#[c]⟩
theorem sL_app (x y : List Nat) : sL x ++ sL y = sL (x ++ y) := by
  show (⟨x.toArray ++ y.toArray⟩ : Str) = _
  rw [List.append_toArray]
theorem sL_len (x : List Nat) : (sL x).length = x.length := rfl
theorem sL_inj {x y : List Nat} : sL x = sL y ↔ x = y := ⟨fun h => by
  have : (sL x).cps.toList = (sL y).cps.toList := by rw [h]
  exact this, fun h => by rw [h]⟩
theorem join_chr (ys : List Nat) : Txt.join (sL []) (ys.map fun c => (⟨#[c]⟩ : Str)) = sL ys := by
  rw [TL.join_eq]
  induction ys with
  | nil => rfl
  | cons x r ih =>
    cases r with
    | nil => rfl
    | cons y s =>
      show (⟨#[x]⟩ : Str) ++ sL [] ++ Str.join (sL []) ((y :: s).map fun c => (⟨#[c]⟩ : Str)) = _
      rw [ih]
      show sL [x] ++ sL [] ++ sL (y :: s) = _
      rw [sL_app, sL_app]
      rfl
theorem cut_back (xs : List V) (n : Nat) : cutV xs (some (n : Int)) none = xs.drop n := by
  unfold cutV
  rw [HT.sIx_none, show HT.sIx xs.length 0 (some (n : Int)) = min n xs.length from HT.sIx_nat _ _ n]
  by_cases h : n ≤ xs.length
  · rw [Nat.min_eq_left h]
    refine List.take_of_length_le ?_
    rw [List.length_drop]
    exact Nat.le_refl _
  · rw [Nat.min_eq_right (by omega), Nat.sub_self, List.take_zero, List.drop_of_length_le (by omega)]
theorem cutS_mid (z : List Nat) {n : Nat} (h : n ≤ z.length) : cutS (sL z) (some (n : Int)) (some ((n : Int) + 1)) = sL ((z.drop n).take 1) := by
  unfold cutS
  rw [sL_len, HT.sIx_nat, show ((n : Int) + 1) = ((n + 1 : Nat) : Int) by omega, HT.sIx_nat, Nat.min_eq_left h]
  show sL ((z.drop n).take (min (n + 1) z.length - n)) = _
  congr 1
  rw [List.take_eq_take_iff, List.length_drop]
  omega
theorem cutS_front (z : List Nat) {n : Nat} (h : n ≤ z.length) : cutS (sL z) none (some (n : Int)) = sL (z.take n) := by
  unfold cutS
  rw [sL_len, HT.sIx_nat, HT.sIx_none, Nat.min_eq_left h]
  rfl
theorem cutS_back (z : List Nat) {n : Nat} (h : n ≤ z.length) : cutS (sL z) (some (n : Int)) none = sL (z.drop n) := by
  unfold cutS
  rw [sL_len, HT.sIx_nat, HT.sIx_none, Nat.min_eq_left h]
  show sL ((z.drop n).take (z.length - n)) = _
  rw [List.take_of_length_le (by rw [List.length_drop]; exact Nat.le_refl _)]
abbrev rAddT : R2 := fun x y H Q => ∃ i j, x = .str i ∧ y = .str j ∧ i.length + j.length ≤ sizeLine ∧ Q (.str (i ++ j)) H
section
variable {K : PySem.W.Frag} {σ : L2.St} {H H' : Hp} {ta tb te tx td ty : TE} {t u : TT} {x y z v : V} {tr : TA} {D : Ends} {tz : TS} {tl th : TO}
theorem ev_addS {i j : List Nat} (ha : Ev ta σ H (.str (sL i))) (hb : Ev tb σ H (.str (sL j))) (hl : i.length + j.length ≤ 100000) : Ev (tOp rAddT ta tb) σ H (.str (sL (i ++ j))) :=
  ev_op ha hb fun H1 e Q q => ⟨sL i, sL j, rfl, rfl, sz_of hl, by rw [sL_app]; exact q H1 (Ex.refl H1)⟩
theorem ev_slS {w : List Nat} {lo hi : Option Int} (h : Ev te σ H (.str (sL w))) (h1 : EvO tl σ H lo) (h2 : EvO th σ H hi) (hl : w.length ≤ 100000) : Ev (tSl rSlS te tl th) σ H (.str (cutS (sL w) lo hi)) := fun H1 e Q q =>
  h H1 e _ fun H2 e2 => h1 H2 (e.trans e2) _ fun H3 e3 => h2 H3 ((e.trans e2).trans e3) _ fun H4 e4 => ⟨sL w, rfl, sz_of hl, q H4 ((e2.trans e3).trans e4)⟩
theorem ev_join {ys : List Nat} (h : EvL te σ H (ys.map chrV)) (hl : ys.length ≤ 1000) : Ev (tM1 (rJoinS K) (tC (.str "")) te) σ H (.str (sL ys)) := fun H1 e Q q =>
  ⟨⟨_, rfl⟩, h H1 e _ fun p H2 _ e2 hp => ⟨sL [], p, ys.map fun c => (⟨#[c]⟩ : Str), rfl, rfl, Or.inl (sq_of (by rw [List.map_map]; exact hp)), (by
    have h1 : ∀ zs : List Nat, ((zs.map fun c => (⟨#[c]⟩ : Str)).map (·.length)).sum = zs.length := fun zs => by
      induction zs with
      | nil => rfl
      | cons z r ih =>
        rw [List.map_cons, List.map_cons, List.sum_cons, ih, List.length_cons]
        show 1 + r.length = _
        omega
    rw [h1, sL_len]
    simp only [List.length_nil, Nat.mul_zero]
    omega), by rw [join_chr]; exact q H2 e2⟩⟩
/-! ### draws: what is new is not the draws' own -/
theorem Dr.fresh {a l c : Addr} {N : Nat} (h : Dr a l c N H) {p : Addr} (hp : H p = none) : p ≠ a ∧ p ≠ l ∧ p ≠ c := by
  obtain ⟨kvs, lg, cs, rest, turn, h1, h2, h3, h4, h5, h6, h7, h8, _⟩ := h.ex
  exact ⟨fun e => (by rw [e, h1] at hp; cases hp), fun e => (by rw [e, h7] at hp; cases hp), fun e => (by rw [e, h8] at hp; cases hp)⟩
theorem Dr.upd {a l c : Addr} {N : Nat} (h : Dr a l c N H) {p : Addr} {o : HO} (n : p ≠ a ∧ p ≠ l ∧ p ≠ c) : Dr a l c N (upd H p o) := by
  obtain ⟨kvs, lg, cs, rest, turn, h1, h2, h3, h4, h5, h6, h7, h8, h9⟩ := h.ex
  exact ⟨kvs, lg, cs, rest, turn, by rw [upd_ne n.1.symm]; exact h1, h2, h3, h4, h5, h6, by rw [upd_ne n.2.1.symm]; exact h7, by rw [upd_ne n.2.2.symm]; exact h8, h9⟩
theorem ExD.mut {a l p : Addr} {o : HO} (e : ExD a l H H') (hp : H p = none) : ExD a l H (L2.upd H' p o) := fun b u hb n1 n2 => by
  rw [upd_ne (ne_of_none hb hp)]
  exact e b u hb n1 n2
theorem ExD.back {a l c p : Addr} {N : Nat} (e : ExD a l H H') (d : Dr a l c N H') (hp : H' p = none) : H p = none := by
  cases h : H p with
  | none => rfl
  | some o =>
    obtain ⟨n1, n2, _⟩ := d.fresh hp
    rw [e p o h n1 n2] at hp
    cases hp
/-- [e for j in range(n)] where e draws -/
theorem lc_draw {a l c : Addr} {N n m j : Nat} {vs : List Nat} (P : Nat → V → Prop) (hD : Dr a l c N H) (hn : n ≤ 40000) (hw : ∀ x, wipe ((wipe σ vs).set j (some x)) vs = wipe σ vs)
    (he : ∀ (i : Nat) H1, i < n → ExD a l H H1 → Dr a l c (N + i * m) H1 → ∀ Q : VK, (∀ v H2, ExD a l H1 H2 → Dr a l c (N + i * m + m) H2 → P i v → Q v H2) → te ((wipe σ vs).set j (some (.int ((0 : Int) + (i : Int))))) H1 Q)
    {Q : Addr → Hp → Prop} (q : ∀ p ys H2, H p = none → ExD a l H H2 → Dr a l c (N + n * m) H2 → H2 p = some (.lst ys) → ys.length = n → (∀ i v, ys[i]? = some v → P i v) → Q p H2) :
    ∀ Dl, H Dl = none → ∃ W : Nat → Nat → Hp → Prop, (∃ m, W 0 m (L2.upd H Dl (.lst []))) ∧ ∀ i m H, W i m H →
      ((Itr 0 n).stop i H ∧ Q Dl H) ∨ ((Itr 0 n).go i H ∧ ∃ Nx : Hp → Prop, (∀ H', Nx H' → ∃ m', m' < m ∧ W (i + 1) m' H') ∧ ∀ x H', (Itr 0 n).yld i H x H' → gName j x (wipe σ vs) H' fun σ2 H2 => wipe σ2 vs = wipe σ vs ∧ tYes σ2 H2 fun b H3 =>
        if b = true then te σ2 H3 fun y H4 => ∃ acc, H4 Dl = some (.lst acc) ∧ acc.length < sizeLine ∧ Nx (L2.upd H4 Dl (.lst (acc ++ [y]))) else Nx H3) := fun Dl hDl => by
  have nf := hD.fresh hDl
  refine lc_range (lo := 0) (n := n) (fun i H' => ∃ ys, ExD a l H H' ∧ Dr a l c (N + i * m) H' ∧ H' Dl = some (.lst ys) ∧ ys.length = i ∧ ∀ k v, ys[k]? = some v → P k v) ⟨[], ExD.of (Ex.new hDl), by rw [Nat.zero_mul]; exact hD.upd nf, upd_same, rfl, fun k v h => by simp at h⟩ (fun i H' hi p => ?_) (fun H' p => ?_)
  · obtain ⟨ys, p1, p2, p3, p4, p5⟩ := p
    refine ⟨hw _, et_yes (σ := (wipe σ vs).set j (some (.int ((0 : Int) + (i : Int))))) (H := H') H' (Ex.refl _) _ fun H3 e3 => ?_⟩
    rw [if_pos rfl]
    refine he i H3 hi (p1.trans (ExD.of e3)) (p2.mono e3) _ fun v H2 e2 d2 hv => ?_
    have p3 := e3 _ _ p3
    have e2' := e2
    have e2 := (ExD.of e3).trans e2
    refine ⟨ys, e2' _ _ p3 nf.1 nf.2.1, sz_lt (by omega), ys ++ [v], (p1.trans e2).mut hDl, ?_, upd_same, by rw [List.length_append, p4]; rfl, fun k w hk => ?_⟩
    · rw [Nat.succ_mul, ← Nat.add_assoc]
      exact d2.upd nf
    · rcases snoc_at p4 hk with ⟨h1, h2⟩ | ⟨rfl, rfl⟩
      · exact p5 k w h2
      · exact hv
  · obtain ⟨ys, p1, p2, p3, p4, p5⟩ := p
    exact q Dl ys H' hDl p1 p2 p3 p4 p5
/-- pick of a new list, of a text -/
theorem do_pickL {a l c : Addr} {N : Nat} {xs : List V} {E : XK} (h0 : σ[0]? = some (some (.ref a))) (hv : EvL te σ H xs) (hD : Dr a l c N H) (hN : N < 1000000) (h1 : 0 < xs.length) (h2 : xs.length < 100000) {Q : VK}
    (q : ∀ x H2, x ∈ xs → Dr a l c (N + 1) H2 → ExD a l H H2 → Q x H2) : tCall spPick [] E (tCons (tVar 0) (tCons te tNil)) σ H Q :=
  ⟨.ref a, h0, hv H (Ex.refl H) _ fun p H1 hp e1 hp1 => by
    have nf := hD.fresh hp
    exact ⟨a, l, c, N, .ref p, xs, rfl, hD.mono e1, hN, Or.inl ⟨p, rfl, Or.inl hp1, nf.1, nf.2.1⟩, h1, h2, fun x H2 hx d e => q x H2 hx d ((ExD.of e1).trans e)⟩⟩
theorem do_pickS {a l c : Addr} {N : Nat} {w : List Nat} {E : XK} (h0 : σ[0]? = some (some (.ref a))) (hv : Ev te σ H (.str (sL w))) (hD : Dr a l c N H) (hN : N < 1000000) (h1 : 0 < w.length) (h2 : w.length < 100000) {Q : VK}
    (q : ∀ x H2, x ∈ w → Dr a l c (N + 1) H2 → ExD a l H H2 → Q (chrV x) H2) : tCall spPick [] E (tCons (tVar 0) (tCons te tNil)) σ H Q :=
  ⟨.ref a, h0, hv H (Ex.refl H) _ fun H1 e1 => ⟨a, l, c, N, .str (sL w), w.map chrV, rfl, hD.mono e1, hN, Or.inr ⟨sL w, rfl, rfl⟩, by rw [List.length_map]; exact h1, by rw [List.length_map]; exact h2, fun x H2 hx d e => by
    obtain ⟨y, hy, rfl⟩ := List.mem_map.mp hx
    exact q y H2 hy d ((ExD.of e1).trans e)⟩⟩
end
def goodB (x : Str) : Bool := decide (1 ≤ x.length) && decide (x.length ≤ 8) && !inV (.str x) (keptL.map V.str) && x.cps.toList.all fun c => decide (c ∈ lettersS.cps.toList)
theorem kept_noq : ∀ z ∈ keptL, 113 ∉ z.cps.toList := fun z hz => by
  have h : keptL.all (fun z => decide (113 ∉ z.cps.toList)) = true := by decide +kernel
  exact of_decide_eq_true (List.all_eq_true.mp h z hz)
theorem letters_all : ∀ c ∈ L25 ++ [113], c ∈ lettersS.cps.toList ∧ c < 0x110000 := fun c hc => by
  have h : (L25 ++ [113]).all (fun c => decide (c ∈ lettersS.cps.toList ∧ c < 0x110000)) = true := by decide +kernel
  exact of_decide_eq_true (List.all_eq_true.mp h c hc)
theorem made_good {cut : Nat} {shift s : Int} {k : Nat} {n : List Nat} (h : Made cut shift s k n) : GoodN (sL n) ∧ PyData.strOk (sL n) = true := by
  obtain ⟨h1, h2, h3, h4⟩ := h.facts
  have hin : ∀ c ∈ n, c ∈ L25 ++ [113] := fun c hc => by
    rw [List.mem_append, List.mem_singleton]
    exact h4 c hc
  refine ⟨⟨h1, by rw [sL_len]; omega, ?_, fun c hc => (letters_all c (hin c hc)).1⟩, ?_⟩
  · rw [inV_strs]
    exact decide_eq_false fun hm => kept_noq _ hm h3
  · unfold PyData.strOk
    rw [← Array.all_toList, List.all_eq_true]
    exact fun c hc => decide_eq_true (letters_all c (hin c hc)).2
def spNames : Sp := fun vs H Q _ => ∃ (a l c : Addr) (N many : Nat), vs = [.ref a, .int (many : Nat)] ∧ Dr a l c N H ∧ N + 2000 < 1000000 ∧ many ≤ 20 ∧
  ∀ (q : Addr) (zs : List Str) (H' : Hp), zs.Nodup → (∀ z ∈ zs, GoodN z ∧ PyData.strOk z = true) → zs.length = many → Dr a l c (N + 200) H' → ExD a l H H' → H q = none → H' q = some (.lst (zs.map V.str)) → Q (.ref q) H'
abbrev l25S : Str := "abcdefghijklmnoprstuvwxyz"
theorem l25_eq : l25S = sL L25 := by decide +kernel
section
variable {P : Program} {w : World} {K : PySem.W.Frag} {mg : Str → Option Value} {base : Heap} {f : Addr} {fd : FuncData} {aK : Addr} {tk : Tk}
theorem ok__law_names (F : Fun K "_law_names" "_law_names" s__law_names f fd) (T : Tx K mg aK tk) (c__law_take : Cal P w K mg base CX0 2 "_law_take" ["draw", "many"] spTake) (c__law_pick : Cal P w K mg base CX0 3 "_law_pick" ["draw", "some"] spPick) :
    FnOk P w K mg base CX0 4 f fd ["draw", "many"] spNames := by
  refine F.ok sc__law_names (fun vs H Q E h => ?_) (fun cdv A outer s H vs Q E hr h => ?_)
  · obtain ⟨a, l, c, N, many, rfl, _⟩ := h
    rfl
  · obtain ⟨a, l, c, N, many, rfl, hD, hN, m24, q⟩ := h
    have hu := hu_of hr
    refine ⟨_, (pss_cons (ps_set (i := 2) sc__law_names.nd rfl (Or.inr rfl) pe_str)
      (pss_cons (ps_par3 (i := 3) (j := 4) (l := 5) (by rfl) sc__law_names.nd rfl rfl rfl (by decide) (by decide) (by decide) rfl rfl rfl (pa_cons (pe_cl c__law_take hr (by decide) (by rfl) (pa_cons (pv 0) (pa_cons pe_int pa_nil))) (pa_cons (pe_cl c__law_pick hr (by decide) (by rfl) (pa_cons (pv 0) (pa_cons (pe_lst (pa_cons pe_int (pa_cons pe_int (pa_cons pe_int (pa_cons pe_int (pa_cons pe_int (pa_cons pe_int (pa_cons pe_int (pa_cons pe_int (pa_cons pe_int pa_nil)))))))))) pa_nil))) (pa_cons (pe_cl c__law_take hr (by decide) (by rfl) (pa_cons (pv 0) (pa_cons pe_int pa_nil))) pa_nil))) (by rfl))
      (pss_cons (ps_setLc (i := 6) (own := [("k", 7)]) rfl sc__law_names.nd rfl rfl (sw_true rfl rfl rfl (by decide +kernel)) (pi_range1 (by rfl) T.range (pa_cons (pe_cl c__law_take hr (by decide) (by rfl) (pa_cons (pv 0) (pa_cons pe_int pa_nil))) pa_nil)) (blkOk_by (own := [("k", 7)]) (N := N__law_names) (sc := defScope s__law_names) (by decide +kernel)) (fun _ _ _ _ _ => (pg_name (i := 7) sc__law_names.nd rfl (Or.inl rfl))) (fun _ _ _ _ _ => pts_nil) (fun _ _ _ _ _ => (pe_cl c__law_pick hr (by decide) (by rfl) (pa_cons (pv 0) (pa_cons (pv 2) pa_nil)))))
      (pss_cons (ps_par (i := 8) (j := 9) (by rfl) sc__law_names.nd rfl rfl (by decide) rfl rfl (pa_cons (pe_cmpR op_eq (pe_cl c__law_take hr (by decide) (by rfl) (pa_cons (pv 0) (pa_cons pe_int pa_nil))) pe_int (nomark _)) (pa_cons (pe_lst pa_nil) pa_nil)) (by rfl))
      (pss_cons (ps_for PassesOwn.never rfl (pi_range1 (by rfl) T.range (pa_cons (pv 1) pa_nil)) (pg_name (i := 7) sc__law_names.nd rfl (Or.inl rfl))
        (pss_cons (ps_set (i := 10) sc__law_names.nd rfl (Or.inl rfl) (pe_callTy (crList (K := K) rfl) (by rfl) T.list (by decide +kernel) (pa_cons (pv 6) pa_nil)))
      (pss_cut (ps_if (pt_not (pt_val (pv 8)))
        (pss_one (ps_setLc (i := 10) (own := [("lap", 11)]) rfl sc__law_names.nd rfl rfl (sw_true rfl rfl rfl (by decide +kernel)) (pi_range1 (by rfl) T.range (pa_cons (pe_cl c__law_take hr (by decide) (by rfl) (pa_cons (pv 0) (pa_cons pe_int pa_nil))) pa_nil)) (blkOk_by (own := [("lap", 11)]) (N := N__law_names) (sc := defScope s__law_names) (by decide +kernel)) (fun _ _ _ _ _ => (pg_name (i := 11) sc__law_names.nd rfl (Or.inl rfl))) (fun _ _ _ _ _ => pts_nil) (fun _ _ _ _ _ => (pe_cl c__law_pick hr (by decide) (by rfl) (pa_cons (pv 0) (pa_cons (pv 2) pa_nil))))))
        pss_nil)
      (pss_cons (ps_set (i := 12) sc__law_names.nd rfl (Or.inl rfl) (pe_op op_add_str (pe_ix ix_str (pv 2) (pe_op op_mod (pe_op op_add (pv 3) (pe_op op_mul (pv 4) (pv 7))) pe_int) (fun _ _ => rfl)) (pe_ifExp (pt_cmpR op_gt (pv 1) pe_int (nomark _)) (pe_ix ix_str (pv 2) (pe_op op_fdiv (pv 7) pe_int) (fun _ _ => rfl)) pe_str)))
      (pss_cons (ps_set (i := 13) sc__law_names.nd rfl (Or.inl rfl) (pe_op op_add_str (pe_op op_add_str (peJoin (K := K) rfl pe_str (pe_slice (slL (K := K) rfl) (pv 10) po_none (po_some (pv 5)))) (pv 12)) (peJoin (K := K) rfl pe_str (pe_slice (slL (K := K) rfl) (pv 10) (po_some (pv 5)) po_none))))
      (pss_cons (ps_set (i := 14) sc__law_names.nd rfl (Or.inl rfl) (pe_cl c__law_take hr (by decide) (by rfl) (pa_cons (pv 0) (pa_cons (pe_op op_add (pe_callB call_len_str (by rfl) T.len (by decide +kernel) (pa_cons (pv 13) pa_nil)) pe_int) pa_nil))))
      (pss_one (ps_expr (pe_bm PySem.F.plainAttrs_list PySem.F.slot_list_append PySem.F.type_list_append mt_append (pv 9) (pa_cons (pe_ifExp (pt_cmpR op_eq (pe_slice sl_str (pv 13) (po_some (pv 14)) (po_some (pe_op op_add (pv 14) pe_int))) pe_str (nomark _)) (pe_op op_add_str (pv 13) pe_str) (pe_op op_add_str (pe_op op_add_str (pe_slice sl_str (pv 13) po_none (po_some (pv 14))) pe_str) (pe_slice sl_str (pv 13) (po_some (pv 14)) po_none))) pa_nil))))))))))
      (pss_one (ps_ret (pv 9)))))))), ?_⟩
    -- letters
    refine q_asg (ev_c (v := .str l25S)) fun H1 e1 => ?_
    have d1 := hD.mono e1
    rw [l25_eq]
    -- shift, step, cut
    refine do_take (H := H1) (size := 25) (ea_cons (ev_var rfl) (ea_cons ev_c ea_nil)) d1 (by omega) (by decide) (by decide) (Ex.refl _) fun shift H2 sh0 sh1 d2 e2 => ?_
    refine do_pickL (a := a) rfl (el_lst (ea_cons (ev_c (v := .int 1)) (ea_cons (ev_c (v := .int 2)) (ea_cons (ev_c (v := .int 3)) (ea_cons (ev_c (v := .int 4)) (ea_cons (ev_c (v := .int 6)) (ea_cons (ev_c (v := .int 7)) (ea_cons (ev_c (v := .int 8)) (ea_cons (ev_c (v := .int 9)) (ea_cons (ev_c (v := .int 11)) ea_nil))))))))) (by decide)) d2 (by omega) (by decide) (by decide) fun vstep H3 hstep d3 e3 => ?_
    obtain ⟨step, rfl, hs⟩ : ∃ step : Int, vstep = .int step ∧ stepOk step := by
      simp only [List.mem_cons, List.not_mem_nil, or_false] at hstep
      unfold stepOk
      rcases hstep with rfl | rfl | rfl | rfl | rfl | rfl | rfl | rfl | rfl <;> exact ⟨_, rfl, by decide⟩
    refine do_take (H := H3) (size := 4) (ea_cons (ev_var rfl) (ea_cons ev_c ea_nil)) d3 (by omega) (by decide) (by decide) (Ex.refl _) fun cutI H4 c0 c1 d4 e4 => ?_
    obtain ⟨cut, rfl⟩ := Int.eq_ofNat_of_zero_le c0
    refine ⟨_, _, _, rfl, ?_⟩
    -- common
    refine do_take (H := H4) (size := 6) (ea_cons (ev_var rfl) (ea_cons ev_c ea_nil)) d4 (by omega) (by decide) (by decide) (Ex.refl _) fun nI H5 n0 n1 d5 e5 => ?_
    obtain ⟨n, rfl⟩ := Int.eq_ofNat_of_zero_le n0
    refine ⟨_, rfl, by omega, by omega, ?_⟩
    rw [Int.toNat_natCast]
    refine lc_draw (n := n) (σ := [some (.ref a), some (.int (many : Nat)), some (.str (sL L25)), some (.int shift), some (.int step), some (.int (cut : Nat)), none, none, none, none, none, none, none, none, none]) (j := 7) (vs := [7]) (m := 1) (fun _ v => ∃ x ∈ L25, v = chrV x) d5 (by omega) (fun _ => rfl) (fun i H6 hi e6 d6 Q' q' => ?_) fun cm ys H6 hcm0 e6 d6 hcm hyl hys => ?_
    · refine do_pickS (a := a) rfl (ev_var (i := 2) rfl) d6 (by omega) (by decide) (by decide) fun x H7 hx d7 e7 => ?_
      exact q' _ H7 e7 d7 ⟨x, hx, rfl⟩
    obtain ⟨cb, rfl, hcb⟩ : ∃ cb : List Nat, ys = cb.map chrV ∧ ∀ x ∈ cb, x ∈ L25 := by
      have gen : ∀ zs : List V, (∀ v ∈ zs, ∃ x ∈ L25, v = chrV x) → ∃ cb : List Nat, zs = cb.map chrV ∧ ∀ x ∈ cb, x ∈ L25 := fun zs => by
        induction zs with
        | nil => exact fun _ => ⟨[], rfl, fun x hx => by cases hx⟩
        | cons z r ih =>
          intro h
          obtain ⟨x, hx, e⟩ := h z List.mem_cons_self
          obtain ⟨cb, e2, h2⟩ := ih fun v hv => h v (List.mem_cons_of_mem _ hv)
          exact ⟨x :: cb, by rw [e, e2]; rfl, fun y hy => by
            rcases List.mem_cons.mp hy with k | k
            · rw [k]
              exact hx
            · exact h2 y k⟩
      exact gen ys fun v hv => by
        obtain ⟨i, hi⟩ := List.mem_iff_getElem?.mp hv
        exact hys i v hi
    rw [List.length_map] at hyl
    -- is_alike, found
    refine do_take (H := H6) (size := 2) (ea_cons (ev_var rfl) (ea_cons ev_c ea_nil)) d6 (by omega) (by decide) (by decide) (Ex.refl _) fun al H7 _ _ d7 e7 => ?_
    refine ⟨rfl, ?_⟩
    generalize decide (V.int al = V.int 0) = alike
    refine ⟨Nat.zero_le _, fun fo hfo => ?_⟩
    refine ⟨_, _, rfl, ?_⟩
    have nfo := d7.fresh hfo
    have d8 := d7.upd (p := fo) (o := .lst []) nfo
    have hf8 : (upd H7 fo (.lst [])) fo = some (.lst []) := upd_same
    have ncm : cm ≠ a ∧ cm ≠ l ∧ cm ≠ c := d5.fresh hcm0
    have hcm7 := e7 _ _ hcm ncm.1 ncm.2.1
    have nmf : cm ≠ fo := ne_of_none hcm7 hfo
    have hcm8 : (upd H7 fo (.lst [])) cm = some (.lst (cb.map chrV)) := by
      rw [upd_ne nmf]
      exact hcm7
    have e08 : ExD a l H (upd H7 fo (.lst [])) := (((((ExD.of e1).trans e2).trans e3).trans (e4.trans (e5.trans (e6.trans e7)))).trans (ExD.of (Ex.new hfo)))
    have hfo0 : H fo = none := ExD.back (((((ExD.of e1).trans e2).trans e3).trans (e4.trans (e5.trans (e6.trans e7))))) d7 hfo
    generalize upd H7 fo (.lst []) = H8 at d8 hf8 hcm8 e08
    refine q_forR1 (n := (many : Int)) (ea_cons (ev_var (i := 1) rfl) ea_nil) (by omega) (fun i σ' H' => ∃ (y7 y10 y11 y12 y13 y14 : Option V) (ns : List (List Nat)), σ' = [some (.ref a), some (.int (many : Nat)), some (.str (sL L25)), some (.int shift), some (.int step), some (.int (cut : Nat)), some (.ref cm), y7, some (.bl alike), some (.ref fo), y10, y11, y12, y13, y14] ∧
        ExD a l H H' ∧ Dr a l c (N + 12 + 8 * i) H' ∧ H' cm = some (.lst (cb.map chrV)) ∧ H' fo = some (.lst (ns.map fun n => V.str (sL n))) ∧ ns.length = i ∧ ∀ k n, ns[k]? = some n → Made cut shift step k n)
      (fun H9 e9 => ⟨none, none, none, none, none, none, [], rfl, e08.trans (ExD.of e9), (d8.mono e9).up (by omega), e9 _ _ hcm8, e9 _ _ hf8, rfl, fun k n h => by simp at h⟩) (fun i σ' H' hi hP => ?_) (fun σ' H' hP => ?_)
    · obtain ⟨y7, y10, y11, y12, y13, y14, ns, rfl, eH, dH, hcm', hfo', hns, hmade⟩ := hP
      have hi24 : i < 24 := by omega
      -- body = list(common)
      refine q_asgL (σ := [some (.ref a), some (.int (many : Nat)), some (.str (sL L25)), some (.int shift), some (.int step), some (.int (cut : Nat)), some (.ref cm), some (.int (i : Int)), some (.bl alike), some (.ref fo), y10, y11, y12, y13, y14]) (el_list (K := K) (ev_var (i := 6) rfl) (sq_of hcm')) fun b1 H9 hb1 e9 hb9 => ?_
      refine q_cut (M := fun σ' H' => ∃ (bo : Addr) (y11 : Option V) (bs : List Nat), σ' = [some (.ref a), some (.int (many : Nat)), some (.str (sL L25)), some (.int shift), some (.int step), some (.int (cut : Nat)), some (.ref cm), some (.int (i : Int)), some (.bl alike), some (.ref fo), some (.ref bo), y11, y12, y13, y14] ∧
        ExD a l H H' ∧ Dr a l c (N + 12 + 8 * i + 6) H' ∧ H' cm = some (.lst (cb.map chrV)) ∧ H' fo = some (.lst (ns.map fun n => V.str (sL n))) ∧ H' bo = some (.lst (bs.map chrV)) ∧ bs.length ≤ 5 ∧ ∀ x ∈ bs, x ∈ L25) ?_ fun σ' H10 hP => ?_
      · refine s_when (σ := [some (.ref a), some (.int (many : Nat)), some (.str (sL L25)), some (.int shift), some (.int step), some (.int (cut : Nat)), some (.ref cm), some (.int (i : Int)), some (.bl alike), some (.ref fo), some (.ref b1), y11, y12, y13, y14]) (b := !alike) (et_not (et_B (ev_var (i := 8) rfl))) (fun hb H10 e10 => ?_) fun hb H10 e10 => ?_
        · have d10 := (dH.mono e9).mono e10
          refine do_take (H := H10) (size := 6) (ea_cons (ev_var rfl) (ea_cons ev_c ea_nil)) d10 (by omega) (by decide) (by decide) (Ex.refl _) fun nI H11 n0 n1 d11 e11 => ?_
          obtain ⟨n2, rfl⟩ := Int.eq_ofNat_of_zero_le n0
          refine ⟨_, rfl, by omega, by omega, ?_⟩
          rw [Int.toNat_natCast]
          refine lc_draw (n := n2) (σ := [some (.ref a), some (.int (many : Nat)), some (.str (sL L25)), some (.int shift), some (.int step), some (.int (cut : Nat)), some (.ref cm), some (.int (i : Int)), some (.bl alike), some (.ref fo), some (.ref b1), y11, y12, y13, y14]) (j := 11) (vs := [11]) (m := 1) (fun _ v => ∃ x ∈ L25, v = chrV x) d11 (by omega) (fun _ => rfl) (fun i H6 hi e6 d6 Q' q' => ?_) fun bo ys H12 hbo0 e12 d12 hbo hyl2 hys2 => ?_
          · refine do_pickS (a := a) rfl (ev_var (i := 2) rfl) d6 (by omega) (by decide) (by decide) fun x H7 hx d7 e7 => ?_
            exact q' _ H7 e7 d7 ⟨x, hx, rfl⟩
          obtain ⟨bs, rfl, hbs⟩ : ∃ cb : List Nat, ys = cb.map chrV ∧ ∀ x ∈ cb, x ∈ L25 := by
            have gen : ∀ zs : List V, (∀ v ∈ zs, ∃ x ∈ L25, v = chrV x) → ∃ cb : List Nat, zs = cb.map chrV ∧ ∀ x ∈ cb, x ∈ L25 := fun zs => by
              induction zs with
              | nil => exact fun _ => ⟨[], rfl, fun x hx => by cases hx⟩
              | cons z r ih =>
                intro h
                obtain ⟨x, hx, e⟩ := h z List.mem_cons_self
                obtain ⟨cb, e2, h2⟩ := ih fun v hv => h v (List.mem_cons_of_mem _ hv)
                exact ⟨x :: cb, by rw [e, e2]; rfl, fun y hy => by
                  rcases List.mem_cons.mp hy with k | k
                  · rw [k]
                    exact hx
                  · exact h2 y k⟩
            exact gen ys fun v hv => by
              obtain ⟨i, hi⟩ := List.mem_iff_getElem?.mp hv
              exact hys2 i v hi
          rw [List.length_map] at hyl2
          have e9_12 := (ExD.of (e9.trans e10)).trans (e11.trans e12)
          exact ⟨bo, y11, bs, rfl, eH.trans e9_12, d12.up (by omega), e9_12 _ _ hcm' ncm.1 ncm.2.1, e9_12 _ _ hfo' nfo.1 nfo.2.1, hbo, by omega, hbs⟩
        · have e910 := e9.trans e10
          exact ⟨b1, y11, cb, rfl, eH.trans (ExD.of e910), (dH.mono e910).up (by omega), e910 _ _ hcm', e910 _ _ hfo', e10 _ _ hb9, by omega, hcb⟩
      · obtain ⟨bo, y11, bs, rfl, eH2, dH2, hcm2, hfo2, hbo2, hbl, hbs⟩ := hP
        -- own
        have i1 : ((shift + step * (i : Int)) % 25).toNat < L25.length := by
          have e1 := Int.emod_nonneg (shift + step * (i : Int)) (show (25 : Int) ≠ 0 by decide)
          have e2 := Int.emod_lt_of_pos (shift + step * (i : Int)) (show (0 : Int) < 25 by decide)
          show _ < 25
          omega
        obtain ⟨oc, hoc⟩ := get_of (l := L25) (i := ((shift + step * (i : Int)) % 25).toNat) rfl i1
        have i0 := Int.emod_nonneg (shift + step * (i : Int)) (show (25 : Int) ≠ 0 by decide)
        have sb : -(2 ^ 64) < step ∧ step < 2 ^ 64 := by
          unfold stepOk at hs
          rcases hs with rfl | rfl | rfl | rfl | rfl | rfl | rfl | rfl | rfl <;> decide
        refine q_asg (v := .str (sL ([oc] ++ []))) (σ := [some (.ref a), some (.int (many : Nat)), some (.str (sL L25)), some (.int shift), some (.int step), some (.int (cut : Nat)), some (.ref cm), some (.int (i : Int)), some (.bl alike), some (.ref fo), some (.ref bo), y11, y12, y13, y14])
          (ev_addS (ev_op (ev_var (i := 2) rfl) (ev_mod (ev_add (ev_var (i := 3) rfl) (ev_mul (ev_var (i := 4) rfl) (ev_var (i := 7) rfl) (Or.inl sb))) ev_c (by decide)) (rv_ixS (by decide) (by
            rw [← Int.toNat_of_nonneg i0]
            exact at_nat hoc))) (ev_if (b := false) (et_is (et_test (ev_gtV (ev_var (i := 1) rfl) ev_c)) (decide_eq_false (by omega))) (fun z => by cases z) fun _ => ev_c) (by simp)) fun H11 e11 => ?_
        rw [List.append_nil]
        -- text
        refine q_asg (v := .str (sL (textOf bs cut oc))) (σ := [some (.ref a), some (.int (many : Nat)), some (.str (sL L25)), some (.int shift), some (.int step), some (.int (cut : Nat)), some (.ref cm), some (.int (i : Int)), some (.bl alike), some (.ref fo), some (.ref bo), y11, some (.str (sL [oc])), y13, y14])
          (ev_addS (ev_addS (ev_join (K := K) (by
            have := el_sl (K := K) (σ := [some (.ref a), some (.int (many : Nat)), some (.str (sL L25)), some (.int shift), some (.int step), some (.int (cut : Nat)), some (.ref cm), some (.int (i : Int)), some (.bl alike), some (.ref fo), some (.ref bo), y11, some (.str (sL [oc])), y13, y14]) (H := H11) (te := tVar 10) (ev_var rfl) eo_none (eo_some (ev_var (i := 5) rfl)) (sq_of (e11 _ _ hbo2))
            rw [cut_front, ← List.map_take] at this
            exact this) (by rw [List.length_take]; omega)) (ev_var (i := 12) rfl) (by rw [List.length_take, List.length_singleton]; omega)) (ev_join (K := K) (by
            have := el_sl (K := K) (σ := [some (.ref a), some (.int (many : Nat)), some (.str (sL L25)), some (.int shift), some (.int step), some (.int (cut : Nat)), some (.ref cm), some (.int (i : Int)), some (.bl alike), some (.ref fo), some (.ref bo), y11, some (.str (sL [oc])), y13, y14]) (H := H11) (te := tVar 10) (ev_var rfl) (eo_some (ev_var (i := 5) rfl)) eo_none (sq_of (e11 _ _ hbo2))
            rw [cut_back, ← List.map_drop] at this
            exact this) (by rw [List.length_drop]; omega)) (by rw [List.length_append, List.length_take, List.length_singleton, List.length_drop]; omega)) fun H12 e12 => ?_
        have hlt : (textOf bs cut oc).length ≤ 6 := by
          rw [textOf_len]
          omega
        have hmk : ∀ at', Made cut shift step i (nameOf (textOf bs cut oc) at') := fun at' => ⟨bs, oc, at', hbl, hbs, hoc, rfl⟩
        generalize textOf bs cut oc = tx at hlt hmk
        -- at
        have e112 := e11.trans e12
        refine do_take (H := H12) (size := ((sL tx).length : Int) + 1) (ea_cons (ev_var rfl) (ea_cons (ev_add (ev_lenS (w := sL tx) (ev_var (i := 13) rfl) (by rw [sL_len]; omega)) ev_c) ea_nil)) (dH2.mono e112) (by omega) (by omega) (by rw [sL_len]; omega) (Ex.refl _) fun atI H13 a0 a1 d13 e13 => ?_
        obtain ⟨at', rfl⟩ := Int.eq_ofNat_of_zero_le a0
        rw [sL_len] at a1
        have hat : at' ≤ tx.length := by omega
        have e113 := (ExD.of e112).trans e13
        have nmk := hmk at'
        refine s_app (K := K) (σ := [some (.ref a), some (.int (many : Nat)), some (.str (sL L25)), some (.int shift), some (.int step), some (.int (cut : Nat)), some (.ref cm), some (.int (i : Int)), some (.bl alike), some (.ref fo), some (.ref bo), y11, some (.str (sL [oc])), some (.str (sL tx)), some (.int (at' : Nat))]) (v := .str (sL (nameOf tx at'))) (e113 _ _ hfo2 nfo.1 nfo.2.1) (ev_var (i := 9) rfl) ?_ (by rw [List.length_map]; omega) fun H14 e14 => ?_
        · refine ev_if (b := decide ((tx.drop at').take 1 = [117])) (et_is (et_test (ev_op (ev_slS (ev_var (i := 13) rfl) (eo_some (ev_var (i := 14) rfl)) (eo_some (ev_add (ev_var (i := 14) rfl) ev_c)) (by omega)) ev_c (rv_eq rfl))) ?_) (fun hb => ?_) fun hb => ?_
          · rw [cutS_mid tx hat]
            have : ((V.str (sL ((tx.drop at').take 1))) = V.str "u") ↔ (tx.drop at').take 1 = [117] := by
              rw [V.str.injEq, show ("u" : Str) = sL [117] by decide +kernel, sL_inj]
            exact decide_eq_decide.mpr this
          · have hb := of_decide_eq_true hb
            unfold nameOf
            rw [if_pos hb]
            exact ev_addS (j := [113]) (ev_var (i := 13) rfl) (ev_is (ev_c (v := .str "q")) (by decide +kernel)) (by simp; omega)
          · have hb := of_decide_eq_false hb
            unfold nameOf
            rw [if_neg hb]
            refine ev_addS (ev_addS (j := [113]) (ev_is (ev_slS (ev_var (i := 13) rfl) eo_none (eo_some (ev_var (i := 14) rfl)) (by omega)) (by rw [cutS_front tx hat])) (ev_is (ev_c (v := .str "q")) (by decide +kernel)) (by simp; omega))
              (ev_is (ev_slS (ev_var (i := 13) rfl) (eo_some (ev_var (i := 14) rfl)) eo_none (by omega)) (by rw [cutS_back tx hat])) (by simp; omega)
        · have e14' := (eH2.trans e113).trans (ExD.of e14)
          refine ⟨_, _, _, _, _, _, ns ++ [nameOf tx at'], rfl, e14'.mut hfo0, ((d13.mono e14).upd nfo).up (by omega), ?_, ?_, by rw [List.length_append, hns]; rfl, fun k n hk => ?_⟩
          · rw [upd_ne nmf]
            exact e14 _ _ (e113 _ _ hcm2 ncm.1 ncm.2.1)
          · rw [upd_same, List.map_append]
            rfl
          · rcases snoc_at hns hk with ⟨_, h2⟩ | ⟨rfl, rfl⟩
            · exact hmade k n h2
            · exact nmk
    · obtain ⟨y7, y10, y11, y12, y13, y14, ns, rfl, eH, dH, hcm', hfo', hns, hmade⟩ := hP
      rw [Int.toNat_natCast] at hns dH
      refine s_ret (v := .ref fo) (ev_var (i := 9) rfl) fun H9 e9 => ?_
      refine q fo (ns.map sL) H9 ?_ (fun z hz => ?_) (by rw [List.length_map]; exact hns) ((dH.mono e9).up (by omega)) (eH.trans (ExD.of e9)) hfo0 (by rw [List.map_map]; exact e9 _ _ hfo')
      · rw [List.nodup_iff_pairwise_ne, List.pairwise_map]
        rw [List.pairwise_iff_getElem]
        intro i j hi hj hij e
        have hi' : i < many := by rw [← hns]; exact hi
        have hj' : j < many := by rw [← hns]; exact hj
        have h1 := hmade i _ (List.getElem?_eq_getElem hi)
        have h2 := hmade j _ (List.getElem?_eq_getElem hj)
        have := Made.ne hs (by omega) (by omega) h1 h2 (sL_inj.mp e)
        omega
      · obtain ⟨n, hn, rfl⟩ := List.mem_map.mp hz
        obtain ⟨k, hk⟩ := List.mem_iff_getElem?.mp hn
        exact made_good (hmade k n hk)
end
end NQ
namespace NQ
open PySem PySem.Spec PyProof.Rows L2 Evl
open KQ (Row)
section
variable {K : PySem.W.Frag} {σ : L2.St} {H H' H0 : Hp} {ta tb te td ty to te' : TE} {t u : TT} {x y z v : V} {tr : TA} {D : Ends} {tu tz : TS} {tl th : TO} {a l c : Addr} {N : Nat}
/-- tuples stand while draws are made -/
theorem Dr.tx (d : Dr a l c N H) (e : ExD a l H H') : TX H H' := by
  obtain ⟨kvs, lg, cs, rest, turn, h1, _, _, _, _, _, h7, _⟩ := d.ex
  exact fun p xs hp => e.dK hp h1 h7
def PayL (H : Hp) (q : Addr) (xs : List (Str × Int)) : Prop := ∃ ps : List Addr, H q = some (.lst (ps.map V.ref)) ∧ Paired (PairH H) ps xs
/-- the dict of lists of payments -/
structure Pays (a l c : Addr) (H0 H : Hp) (d : Addr) (ns : List Str) (kvs : List (Key × V)) (f : Str → Addr) (F : Str → List (Str × Int)) : Prop where
  hd : H d = some (.dK kvs)
  hv : ∀ n ∈ ns, valV kvs (Sum.inr n) = some (.ref (f n))
  inj : ∀ n ∈ ns, ∀ m ∈ ns, f n = f m → n = m
  new : ∀ n ∈ ns, H0 (f n) = none ∧ f n ≠ a ∧ f n ≠ l ∧ f n ≠ c
  dn : d ≠ a ∧ d ≠ l
  pl : ∀ n ∈ ns, PayL H (f n) (F n)
section
variable {d : Addr} {ns : List Str} {kvs : List (Key × V)} {f : Str → Addr} {F : Str → List (Str × Int)}
theorem Pays.exD (P : Pays a l c H0 H d ns kvs f F) (dr : Dr a l c N H) (e : ExD a l H H') : Pays a l c H0 H' d ns kvs f F :=
  ⟨e _ _ P.hd P.dn.1 P.dn.2, P.hv, P.inj, P.new, P.dn, fun n hn => by
    obtain ⟨ps, h1, h2⟩ := P.pl n hn
    exact ⟨ps, e _ _ h1 (P.new n hn).2.1 (P.new n hn).2.2.1, L2.Paired.mapP h2 fun _ _ z => z.tx (dr.tx e)⟩⟩
theorem Pays.ex (P : Pays a l c H0 H d ns kvs f F) (e : Ex H H') : Pays a l c H0 H' d ns kvs f F :=
  ⟨e _ _ P.hd, P.hv, P.inj, P.new, P.dn, fun n hn => by
    obtain ⟨ps, h1, h2⟩ := P.pl n hn
    exact ⟨ps, e _ _ h1, L2.Paired.mapP h2 fun _ _ z => z.tx (TX.of e)⟩⟩
theorem Pays.app (P : Pays a l c H0 H d ns kvs f F) {one : Str} (h1 : one ∈ ns) {p : Addr} {x : Str × Int} (hp : H p = some (.tup [.str x.1, .int x.2])) {ps : List Addr} (hq : H (f one) = some (.lst (ps.map V.ref))) (hpr : Paired (PairH H) ps (F one)) :
    Pays a l c H0 (L2.upd H (f one) (.lst (ps.map V.ref ++ [.ref p]))) d ns kvs f (fun n => if n = one then F one ++ [x] else F n) := by
  have tx : TX H (L2.upd H (f one) (.lst (ps.map V.ref ++ [.ref p]))) := TX.updL hq
  refine ⟨?_, P.hv, P.inj, P.new, P.dn, fun n hn => ?_⟩
  · rw [upd_ne (ne_of P.hd hq (by intro z; cases z))]
    exact P.hd
  · by_cases e : n = one
    · subst e
      refine ⟨ps ++ [p], by rw [upd_same, List.map_append]; rfl, ?_⟩
      rw [if_pos rfl]
      exact paired_snoc (L2.Paired.mapP hpr fun _ _ z => z.tx tx) (tx _ _ hp)
    · obtain ⟨qs, g1, g2⟩ := P.pl n hn
      refine ⟨qs, ?_, ?_⟩
      · rw [upd_ne fun z => e (P.inj n hn one h1 z)]
        exact g1
      · rw [if_neg e]
        exact L2.Paired.mapP g2 fun _ _ z => z.tx tx
end
/-- good payments -/
structure OkF (ns : List Str) (most : Nat) (top : Int) (F : Str → List (Str × Int)) : Prop where
  len : ∀ n ∈ ns, (F n).length ≤ most
  each : ∀ n ∈ ns, ∀ x ∈ F n, x.1 ≠ n ∧ x.1 ∈ ns ∧ 1 ≤ x.2 ∧ x.2 ≤ top
theorem OkF.app {ns : List Str} {most : Nat} {top : Int} {F : Str → List (Str × Int)} (G : OkF ns most top F) {one : Str} {x : Str × Int} (h : (F one).length < most) (h1 : x.1 ≠ one) (h2 : x.1 ∈ ns) (h3 : 1 ≤ x.2) (h4 : x.2 ≤ top) : OkF ns most top (fun n => if n = one then F one ++ [x] else F n) := by
  refine ⟨fun n hn => ?_, fun n hn y hy => ?_⟩
  · split
    · rw [List.length_append, List.length_singleton]
      omega
    · exact G.len n hn
  · split at hy
    · rename_i e
      rw [e]
      rcases List.mem_append.mp hy with k | k
      · rw [e] at hn
        exact G.each one hn y k
      · rw [List.mem_singleton.mp k]
        exact ⟨h1, h2, h3, h4⟩
    · exact G.each n hn y hy
/-- for j in range(e), e drawn -/
theorem q_forRD {j : Nat} (B : Nat) (hB : B ≤ 100000) (Pv : Nat → L2.St → Hp → Prop) (he : ∀ R : List V → Hp → Prop, (∀ (n : Nat) H1, n ≤ B → Pv 0 σ H1 → R [.int (n : Nat)] H1) → tr σ H R)
    (hs : ∀ (i : Nat) σ' H', i < B → Pv i σ' H' → tu { D with nx := Pv (i + 1), ct := Pv (i + 1), bk := tz D } (σ'.set j (some (.int (i : Int)))) H') (hd : ∀ n σ' H', n ≤ B → Pv n σ' H' → tz D σ' H') : tSeq (tFor (iRng1 tr) (gName j) tu) tz D σ H := by
  refine he _ fun n H1 hn h0 => ⟨(n : Int), rfl, by omega, by omega, ?_⟩
  rw [Int.toNat_natCast]
  refine for_range (lo := 0) (n := n) (D := { D with nx := tz D }) Pv h0 (fun i σ' H' hi p => ?_) (hd n · · hn)
  have e0 : (0 : Int) + (i : Int) = (i : Int) := Int.zero_add _
  show tu { D with nx := Pv (i + 1), ct := Pv (i + 1), bk := tz D } (σ'.set j (some (.int ((0 : Int) + (i : Int))))) H'
  rw [e0]
  exact hs i σ' H' (by omega) p
/-- what draws an int from 1 to top -/
def DrI (a l c : Addr) (N : Nat) (te : TE) (σ : L2.St) (H : Hp) (top : Int) : Prop := ∀ H1, ExD a l H H1 → Dr a l c N H1 → ∀ Q : VK, (∀ z H2, 1 ≤ z → z ≤ top → Dr a l c (N + 1) H2 → ExD a l H1 H2 → Q (.int z) H2) → te σ H1 Q
/-- a comprehension over what J gives, once J stands -/
theorem lc_G {J : It} {G : Hp → Prop} {Y : Nat → Hp → V → Hp → Prop} {n : Nat} {g : TG} {tt : TT} {vs : List Nat} (W : Walk J n G Y) (hG : ∀ H3, Ex H H3 → G H3) (hn : n ≤ 40000) (P : Nat → V → Hp → Prop) (hP : ∀ i v H1 H2, TX H1 H2 → P i v H1 → P i v H2)
    (hb : ∀ i x H1 H2, Ex H H1 → i < n → Y i H1 x H2 → Ex H1 H2 ∧ ∃ σ2, (∀ R : L2.St → Hp → Prop, R σ2 H2 → g x (wipe σ vs) H2 R) ∧ wipe σ2 vs = wipe σ vs ∧ EvT tt σ2 H2 true ∧ Gv te σ2 H2 (P i))
    {Q : Addr → Hp → Prop} (q : ∀ p ys H2, H p = none → Ex H H2 → H2 p = some (.lst ys) → Paired (fun i y => P i y H2) (List.range n) ys → Q p H2) :
    ∀ Dl, H Dl = none → ∃ W : Nat → Nat → Hp → Prop, (∃ m, W 0 m (L2.upd H Dl (.lst []))) ∧ ∀ i m H, W i m H →
      (J.stop i H ∧ Q Dl H) ∨ (J.go i H ∧ ∃ Nx : Hp → Prop, (∀ H', Nx H' → ∃ m', m' < m ∧ W (i + 1) m' H') ∧ ∀ x H', J.yld i H x H' → g x (wipe σ vs) H' fun σ2 H2 => wipe σ2 vs = wipe σ vs ∧ tt σ2 H2 fun b H3 =>
        if b = true then te σ2 H3 fun y H4 => ∃ acc, H4 Dl = some (.lst acc) ∧ acc.length < sizeLine ∧ Nx (L2.upd H4 Dl (.lst (acc ++ [y]))) else Nx H3) := fun Dl hD => by
  refine lc_it W (fun i H' => ∃ ys, Ex H H' ∧ H' Dl = some (.lst ys) ∧ Paired (fun j y => P j y H') (List.range i) ys) ⟨[], Ex.new hD, upd_same, .nil⟩ (fun i H' _ p => ?_) (fun i x H' H2 hi p hy => ?_) fun H' p => ?_
  · obtain ⟨ys, p2, p3, p4⟩ := p
    exact hG H' p2
  · obtain ⟨ys, p2, p3, p4⟩ := p
    obtain ⟨e2, σ2, b2, b1, b3, b4⟩ := hb i x H' H2 p2 hi hy
    refine b2 _ ⟨b1, b3 H2 (Ex.refl H2) _ fun H3 e3 => ?_⟩
    have hl : ys.length = i := by rw [← paired_len p4, List.length_range]
    rw [if_pos rfl]
    refine b4 H3 e3 _ fun y H4 e4 hy4 => ?_
    have e24 := (e2.trans e3).trans e4
    refine ⟨ys, e24 _ _ p3, sz_lt (by omega), ys ++ [y], Ex.mut (p2.trans e24) hD, upd_same, ?_⟩
    rw [List.range_succ]
    have tx : TX H4 (L2.upd H4 Dl (.lst (ys ++ [y]))) := TX.updL (e24 _ _ p3)
    exact paired_snoc (L2.Paired.mapP p4 fun j w hw => hP j w _ _ ((TX.of e24).trans tx) hw) (hP i y _ _ tx hy4)
  · obtain ⟨ys, p2, p3, p4⟩ := p
    exact q Dl ys H' hD p2 p3 p4
/-- if len(payments[one]) < most: payments[one].append((o, e)) -/
theorem s_payIf {d : Addr} {ns : List Str} {kvs : List (Key × V)} {f : Str → Addr} {F : Str → List (Str × Int)} {most : Nat} {top : Int} {one o : Str} (h4 : σ[4]? = some (some (.ref d))) (h2 : σ[2]? = some (some (.int (most : Nat)))) (P : Pays a l c H0 H d ns kvs f F) (G : OkF ns most top F) (m60 : most ≤ 60) (dr : Dr a l c N H) (e0 : ExD a l H0 H)
    (ho : one ∈ ns) (hk : Ev te σ H (.str one)) (hx : Ev to σ H (.str o)) (ho2 : o ∈ ns) (hne : o ≠ one) (hz : DrI a l c N te' σ H top)
    (k : ∀ F' H', OkF ns most top F' → Pays a l c H0 H' d ns kvs f F' → Dr a l c (N + 1) H' → ExD a l H0 H' → (∀ b u, H b = some u → b ≠ a → b ≠ l → (∀ n ∈ ns, b ≠ f n) → H' b = some u) → D.nx σ H') :
    tIfS (tTest (tOp (rI0 fun i j => .bl (decide (i < j))) (tCB (rLenS K) (tCons (tDGet (tVar 4) te) tNil)) (tVar 2))) (tDrop (tBM K "list" rAppend (tDGet (tVar 4) te) (tCons (tTup (tCons to (tCons te' tNil))) tNil))) tNext D σ H := by
  obtain ⟨ps, hq, hpr⟩ := P.pl one ho
  have hl : ps.length = (F one).length := paired_len hpr
  have nf := P.new one ho
  have g60 := G.len one ho
  have get : ∀ {H1 : Hp}, Ex H H1 → Ev (tDGet (tVar 4) te) σ H1 (.ref (f one)) := fun e => ev_dget (k := Sum.inr one) (ev_var h4) (hk.mono e) (e _ _ P.hd) (P.hv one ho)
  refine s_when (b := decide ((F one).length < most)) (et_is (et_test (ev_ltV (ev_len (get (Ex.refl H)) (sq_of hq)) (ev_var h2))) ?_) (fun hb H1 e1 => ?_) (fun hb H1 e1 => ?_)
  · rw [List.length_map, hl]
    exact decide_eq_decide.mpr (by omega)
  · have hlt := of_decide_eq_true hb
    refine get e1 H1 (Ex.refl _) _ fun H2 e2 => ⟨Or.inl ⟨rfl, _, sq_of ((e1.trans e2) _ _ hq)⟩, ?_⟩
    have e12 := e1.trans e2
    refine hx H2 e12 _ fun H3 e3 => ?_
    have e13 := e12.trans e3
    refine hz H3 (ExD.of e13) (dr.mono e13) _ fun zz H4 z1 z2 d4 e4 => ⟨by show 2 ≤ sizeLine; decide, fun p hp => ?_⟩
    have e05 : ExD a l H (L2.upd H4 p (.tup [.str o, .int zz])) := ((ExD.of e13).trans e4).trans (ExD.of (Ex.new hp))
    have d5 := d4.upd (p := p) (o := .tup [.str o, .int zz]) (d4.fresh hp)
    have hp5 : (L2.upd H4 p (.tup [.str o, .int zz])) p = some (.tup [.str o, .int zz]) := upd_same
    generalize L2.upd H4 p (.tup [.str o, .int zz]) = H5 at e05 d5 hp5
    have P5 := P.exD dr e05
    have hq5 : H5 (f one) = some (.lst (ps.map V.ref)) := e05 _ _ hq nf.2.1 nf.2.2.1
    refine ⟨f one, _, .ref p, rfl, rfl, hq5, sz_lt (by rw [List.length_map, hl]; omega), ?_⟩
    refine k _ _ (G.app hlt hne ho2 z1 z2) (P5.app ho (x := (o, zz)) hp5 hq5 (L2.Paired.mapP hpr fun _ _ z => z.tx (dr.tx e05))) (d5.upd nf.2) ((e0.trans e05).mut nf.1) fun b u hb nb1 nb2 hbn => ?_
    rw [upd_ne (hbn one ho)]
    exact e05 _ _ hb nb1 nb2
  · exact k F H1 G (P.exD dr (ExD.of e1)) ((dr.mono e1).up (by omega)) (e0.trans (ExD.of e1)) fun b u hb _ _ _ => e1 _ _ hb
/-- shuffled(draw, list(names))[:m], m drawn -/
theorem do_shufCut {ns : List Str} {nl : Addr} {E : XK} (h0 : σ[0]? = some (some (.ref a))) (h1 : σ[1]? = some (some (.ref nl))) (hn : H nl = some (.lst (ns.map V.str))) (dr : Dr a l c N H) (hN : N + 1000 < 1000000) (hl : ns.length ≤ 20) (hok : ∀ z ∈ ns, PyData.strOk z = true) {M : Nat} (pm : Nat → Prop)
    (hm : ∀ H1 (R : Option Int → Hp → Prop), Dr a l c (N + ns.length) H1 → ExD a l H H1 → (∀ (m : Nat) H2, pm m → Dr a l c M H2 → ExD a l H1 H2 → R (some (m : Nat)) H2) → th σ H1 R) {Q : VK}
    (q : ∀ p (zs : List Str) (m : Nat) H2, H p = none → H2 p = some (.lst (zs.map V.str)) → pm m → zs.length = min m ns.length → (ns.Nodup → zs.Nodup) → (∀ z ∈ zs, z ∈ ns) → Dr a l c M H2 → ExD a l H H2 → Q (.ref p) H2) :
    tSl (rSlL K) (tCall spShuf [] E (tCons (tVar 0) (tCons (tCB (rListS' K) (tCons (tVar 1) tNil)) tNil))) tNoPart th σ H Q := by
  refine ⟨.ref a, h0, .ref nl, h1, nl, _, rfl, Or.inl (sq_of hn), fun cp hcp => ?_⟩
  have nf := dr.fresh hcp
  refine ⟨a, l, c, N, cp, ns, rfl, dr.upd nf, hN, ⟨Or.inl upd_same, nf.1, nf.2.1⟩, by omega, hok, fun q1 ys H2 hperm d2 e2 hq0 hq1 => ?_⟩
  have e02 : ExD a l H H2 := (ExD.of (Ex.new hcp)).trans e2
  have nq := (dr.upd (p := cp) (o := .lst (ns.map V.str)) nf).fresh hq0
  refine hm H2 _ d2 e02 fun m H3 hlo d3 e3 => ?_
  refine ⟨q1, _, rfl, sq_of (e3 _ _ hq1 nq.1 nq.2.1), fun p hp => ?_⟩
  rw [cut_front, ← List.map_take]
  have e03 := e02.trans e3
  exact q p (ys.take m) m _ (ExD.back e03 d3 hp) upd_same hlo (by rw [List.length_take, hperm.length_eq]) (fun hnd => (hperm.nodup_iff.mpr hnd).sublist (List.take_sublist _ _)) (fun z hz => hperm.mem_iff.mp (List.mem_of_mem_take hz)) (d3.upd (d3.fresh hp)) (e03.trans (ExD.of (Ex.new hp)))
theorem at_prev {zs : List Str} {j : Nat} (hj : j < zs.length) : ∃ (i : Nat) (z : Str), zs[i]? = some z ∧ (i ≠ j ∨ zs.length = 1) ∧ atI (zs.map V.str) ((j : Int) - 1) = some (.str z) := by
  by_cases h0 : j = 0
  · subst h0
    obtain ⟨z, hz⟩ := get_of (l := zs) (i := zs.length - 1) rfl (by omega)
    refine ⟨zs.length - 1, z, hz, by omega, ?_⟩
    unfold atI ixN
    rw [List.length_map, if_neg (by omega), if_pos (by omega)]
    show (zs.map V.str)[_]? = _
    rw [show (((0 : Nat) : Int) - 1 + (zs.length : Int)).toNat = zs.length - 1 by omega, List.getElem?_map, hz]
    rfl
  · obtain ⟨z, hz⟩ := get_of (l := zs) (i := j - 1) rfl (by omega)
    refine ⟨j - 1, z, hz, by omega, at_of (j := j - 1) (by omega) ?_⟩
    rw [List.getElem?_map, hz]
    rfl
end
theorem idx_at {ns : List Str} (hn : ns.Nodup) {j : Nat} {n : Str} (h : ns[j]? = some n) : ns.idxOf n = j := by
  obtain ⟨hj, e⟩ := List.getElem?_eq_some_iff.mp h
  rw [← e]
  exact List.Nodup.idxOf_getElem hn j hj
/-- cash and payments drawn, as rows -/
def mkRows (C : Str → Int) (F : Str → List (Str × Int)) (zs : List Str) : List (Row Str) := zs.map fun n => (n, C n, F n)
def spLists : Sp := fun vs H Q _ => ∃ (a l c : Addr) (N : Nat) (nl : Addr) (ns : List Str) (most top : Nat), vs = [.ref a, .ref nl, .int (most : Nat), .int (top : Nat)] ∧ Dr a l c N H ∧ N + 3000 < 1000000 ∧ H nl = some (.lst (ns.map V.str)) ∧ nl ≠ l ∧ ns.Nodup ∧ (∀ z ∈ ns, GoodN z ∧ PyData.strOk z = true) ∧ 2 ≤ ns.length ∧ ns.length ≤ 20 ∧ most ≤ 60 ∧ 1 ≤ top ∧ top ≤ 1000 ∧
  ∀ (p : Addr) (qs : List (Row Str)) (H' : Hp), GoodQ qs → (names qs).Perm ns → (∀ r ∈ qs, r.2.2.length ≤ most ∧ r.2.1 ≤ (top : Int) + 2 ∧ ∀ x ∈ r.2.2, x.2 ≤ (top : Int)) → QH H' p qs → Dr a l c (N + 400) H' → ExD a l H H' → Q (.ref p) H'
section
variable {P : Program} {w : World} {K : PySem.W.Frag} {mg : Str → Option Value} {base : Heap} {f : Addr} {fd : FuncData} {aK : Addr} {tk : Tk}
theorem ok__law_lists (F : Fun K "_law_lists" "_law_lists" s__law_lists f fd) (T : Tx K mg aK tk) (c__law_take : Cal P w K mg base CX0 2 "_law_take" ["draw", "many"] spTake) (c__law_pick : Cal P w K mg base CX0 3 "_law_pick" ["draw", "some"] spPick) (c__law_shuffled : Cal P w K mg base CX0 3 "_law_shuffled" ["draw", "some"] spShuf) :
    FnOk P w K mg base CX0 4 f fd ["draw", "names", "most", "top"] spLists := by
  refine F.ok sc__law_lists (fun vs H Q E h => ?_) (fun cdv A outer s H vs Q E hr h => ?_)
  · obtain ⟨a, l, c, N, nl, ns, most, top, rfl, _⟩ := h
    rfl
  · obtain ⟨a, l, c, N, nl, ns, most, top, rfl, hD, hN, hnl, nnl, nd, hgood, n2, n20, m60, t1, t1000, q⟩ := h
    have hu := hu_of hr
    refine ⟨_, (pss_cons (ps_asg (pe_tup (pa_cons (pe_callTy (crDictL (K := K) rfl rfl) (by rfl) T.dict (by decide +kernel) (pa_cons (pe_lc (own := [("name", 6)]) rfl sc__law_lists.nd (piLst (K := K) rfl (pv 1)) (blkOk_by (own := [("name", 6)]) (N := N__law_lists) (sc := defScope s__law_lists) (by decide +kernel)) (fun _ _ _ _ _ => (pg_name (i := 6) sc__law_lists.nd rfl (Or.inl rfl))) (fun _ _ _ _ _ => pts_nil) (fun _ _ _ _ _ => (pe_tup (pa_cons (pv 6) (pa_cons (pe_lst pa_nil) pa_nil))))) pa_nil)) (pa_cons (pe_callTy (crDictL (K := K) rfl rfl) (by rfl) T.dict (by decide +kernel) (pa_cons (pe_lc (own := [("name", 6)]) rfl sc__law_lists.nd (piLst (K := K) rfl (pv 1)) (blkOk_by (own := [("name", 6)]) (N := N__law_lists) (sc := defScope s__law_lists) (by decide +kernel)) (fun _ _ _ _ _ => (pg_name (i := 6) sc__law_lists.nd rfl (Or.inl rfl))) (fun _ _ _ _ _ => pts_nil) (fun _ _ _ _ _ => (pe_tup (pa_cons (pv 6) (pa_cons (pe_cl c__law_pick hr (by decide) (by rfl) (pa_cons (pv 0) (pa_cons (pe_lst (pa_cons pe_int (pa_cons pe_int (pa_cons pe_int (pa_cons pe_int (pa_cons (pv 3) pa_nil)))))) pa_nil))) pa_nil))))) pa_nil)) pa_nil))) (pgTup (K := K) (n := 2) rfl rfl (pgs_cons (pg_name (i := 4) sc__law_lists.nd rfl (Or.inr rfl)) (pgs_cons (pg_name (i := 5) sc__law_lists.nd rfl (Or.inr rfl)) pgs_nil))))
      (pss_cons (ps_for PassesOwn.never rfl (pi_range1 (by rfl) T.range (pa_cons (pe_op op_add pe_int (pe_cl c__law_take hr (by decide) (by rfl) (pa_cons (pv 0) (pa_cons pe_int pa_nil)))) pa_nil)) (pg_name (i := 7) sc__law_lists.nd rfl (Or.inl rfl))
        (pss_cons (ps_set (i := 8) sc__law_lists.nd rfl (Or.inl rfl) (pe_slice (slL (K := K) rfl) (pe_cl c__law_shuffled hr (by decide) (by rfl) (pa_cons (pv 0) (pa_cons (pe_callTy (crList (K := K) rfl) (by rfl) T.list (by decide +kernel) (pa_cons (pv 1) pa_nil)) pa_nil))) po_none (po_some (pe_op op_add pe_int (pe_cl c__law_take hr (by decide) (by rfl) (pa_cons (pv 0) (pa_cons (pe_op op_sub (pe_callB (crLen (K := K) rfl) (by rfl) T.len (by decide +kernel) (pa_cons (pv 1) pa_nil)) pe_int) pa_nil)))))))
      (pss_cons (ps_par (i := 9) (j := 10) (by rfl) sc__law_lists.nd rfl rfl (by decide) rfl rfl (pa_cons (pe_op op_add pe_int (pe_cl c__law_take hr (by decide) (by rfl) (pa_cons (pv 0) (pa_cons (pv 3) pa_nil)))) (pa_cons (pe_cmpR op_gt (pe_cl c__law_take hr (by decide) (by rfl) (pa_cons (pv 0) (pa_cons pe_int pa_nil))) pe_int (nomark _)) pa_nil)) (by rfl))
      (pss_one (ps_for PassesOwn.never rfl (pi_range1 (by rfl) T.range (pa_cons (pe_callB (crLen (K := K) rfl) (by rfl) T.len (by decide +kernel) (pa_cons (pv 8) pa_nil)) pa_nil)) (pg_name (i := 11) sc__law_lists.nd rfl (Or.inl rfl))
        (pss_one (ps_if (pt_cmpR op_lt (pe_callB (crLen (K := K) rfl) (by rfl) T.len (by decide +kernel) (pa_cons (pe_dget hu (pv 4) (pe_ix (ixL (K := K) rfl) (pv 8) (pe_op op_sub (pv 11) pe_int) (fun _ _ => rfl)) (fun _ _ => rfl)) pa_nil)) (pv 2) (nomark _))
        (pss_one (ps_expr (pe_bm PySem.F.plainAttrs_list PySem.F.slot_list_append PySem.F.type_list_append mt_append (pe_dget hu (pv 4) (pe_ix (ixL (K := K) rfl) (pv 8) (pe_op op_sub (pv 11) pe_int) (fun _ _ => rfl)) (fun _ _ => rfl)) (pa_cons (pe_tup (pa_cons (pe_ix (ixL (K := K) rfl) (pv 8) (pv 11) (fun _ _ => rfl)) (pa_cons (pe_ifExp (pt_val (pv 10)) (pv 9) (pe_op op_add pe_int (pe_cl c__law_take hr (by decide) (by rfl) (pa_cons (pv 0) (pa_cons (pv 3) pa_nil))))) pa_nil))) pa_nil))))
        pss_nil)))))))
      (pss_cons (ps_for PassesOwn.never rfl (pi_range1 (by rfl) T.range (pa_cons (pe_cl c__law_take hr (by decide) (by rfl) (pa_cons (pv 0) (pa_cons pe_int pa_nil))) pa_nil)) (pg_name (i := 7) sc__law_lists.nd rfl (Or.inl rfl))
        (pss_cons (ps_asg (pe_slice (slL (K := K) rfl) (pe_cl c__law_shuffled hr (by decide) (by rfl) (pa_cons (pv 0) (pa_cons (pe_callTy (crList (K := K) rfl) (by rfl) T.list (by decide +kernel) (pa_cons (pv 1) pa_nil)) pa_nil))) po_none (po_some pe_int)) (pg_unl rfl (pgs_cons (pg_name (i := 12) sc__law_lists.nd rfl (Or.inl rfl)) (pgs_cons (pg_name (i := 13) sc__law_lists.nd rfl (Or.inl rfl)) pgs_nil))))
      (pss_one (ps_if (pt_cmpR op_lt (pe_callB (crLen (K := K) rfl) (by rfl) T.len (by decide +kernel) (pa_cons (pe_dget hu (pv 4) (pv 12) (fun _ _ => rfl)) pa_nil)) (pv 2) (nomark _))
        (pss_one (ps_expr (pe_bm PySem.F.plainAttrs_list PySem.F.slot_list_append PySem.F.type_list_append mt_append (pe_dget hu (pv 4) (pv 12) (fun _ _ => rfl)) (pa_cons (pe_tup (pa_cons (pv 13) (pa_cons (pe_op op_add pe_int (pe_cl c__law_take hr (by decide) (by rfl) (pa_cons (pv 0) (pa_cons (pv 3) pa_nil)))) pa_nil))) pa_nil))))
        pss_nil))))
      (pss_one (ps_ret (pe_tup (pa_cons pe_str (pa_cons (pe_callTy (crTup (K := K) rfl) (by rfl) T.tuple (by decide +kernel) (pa_cons (pe_lc (own := [("name", 6)]) rfl sc__law_lists.nd (piLst (K := K) rfl (pe_callB (crSortS (K := K) rfl) (by rfl) T.sorted (by decide +kernel) (pa_cons (pv 1) pa_nil))) (blkOk_by (own := [("name", 6)]) (N := N__law_lists) (sc := defScope s__law_lists) (by decide +kernel)) (fun _ _ _ _ _ => (pg_name (i := 6) sc__law_lists.nd rfl (Or.inl rfl))) (fun _ _ _ _ _ => pts_nil) (fun _ _ _ _ _ => (pe_tup (pa_cons (pv 6) (pa_cons (pe_dget hu (pv 5) (pv 6) (fun _ _ => rfl)) (pa_cons (pe_callTy (crTup (K := K) rfl) (by rfl) T.tuple (by decide +kernel) (pa_cons (pe_dget hu (pv 4) (pv 6) (fun _ _ => rfl)) pa_nil)) pa_nil)))))) pa_nil)) pa_nil)))))))), ?_⟩
    obtain ⟨kv0, lg0, cs0, rest0, turn0, k1, _, _, _, _, _, k7, _⟩ := hD.ex
    have nna : nl ≠ a := ne_of hnl k1 (by intro z; cases z)
    have nsl : (ns.map V.str).length = ns.length := List.length_map ..
    -- payments
    refine ⟨.ref nl, rfl, nl, rfl, ⟨_, sq_of hnl⟩, fun D1 hD1 => ?_⟩
    refine lc_list (xs := ns.map V.str) (fun i H' => ∃ (ps qs : List Addr), ps.length = i ∧ qs.length = i ∧ Ex H H' ∧ H' D1 = some (.lst (ps.map V.ref)) ∧ qs.Nodup ∧ ∀ (j : Nat) p q n, ps[j]? = some p → qs[j]? = some q → ns[j]? = some n → H' p = some (.tup [.str n, .ref q]) ∧ H' q = some (.lst []) ∧ H q = none ∧ q ≠ D1)
      ⟨[], [], rfl, rfl, Ex.new hD1, upd_same, List.nodup_nil, fun j p q n h => by simp at h⟩ (fun i H' _ p => ?_) (fun i x H' hx p => ?_) (fun H2 p => ?_)
    · obtain ⟨_, _, _, _, e, _⟩ := p
      exact sq_of (e _ _ hnl)
    · obtain ⟨ps, qs, hps, hqs, eH, hDl, hqn, hall⟩ := p
      obtain ⟨n, hn, rfl⟩ := map_at hx
      have hi := (List.getElem?_eq_some_iff.mp hn).1
      refine ⟨rfl, et_yes (σ := [some (.ref a), some (.ref nl), some (.int (most : Nat)), some (.int (top : Nat)), none, none, some (.str n), none, none, none, none, none, none, none]) (H := H') H' (Ex.refl _) _ fun H3 e3 => ?_⟩
      rw [if_pos rfl]
      refine ⟨.str n, rfl, Nat.zero_le _, fun q0 hq0 => ⟨by show 2 ≤ sizeLine; decide, fun p0 hp0 => ?_⟩⟩
      have x4 : Ex H3 (upd H3 q0 (.lst [])) := Ex.new hq0
      have x5 := x4.trans (Ex.new (o := .tup [.str n, .ref q0]) hp0)
      have hq5 : (upd (upd H3 q0 (.lst [])) p0 (.tup [.str n, .ref q0])) q0 = some (.lst []) := by
        rw [upd_ne (ne_of_none (upd_same (H := H3) (a := q0) (o := .lst [])) hp0)]
        exact upd_same
      have hp5 : (upd (upd H3 q0 (.lst [])) p0 (.tup [.str n, .ref q0])) p0 = some (.tup [.str n, .ref q0]) := upd_same
      generalize upd (upd H3 q0 (.lst [])) p0 (.tup [.str n, .ref q0]) = H5 at x5 hq5 hp5
      have hD5 := (e3.trans x5) _ _ hDl
      have nqD : q0 ≠ D1 := fun z => by
        rw [z, e3 _ _ hDl] at hq0
        cases hq0
      have nqn : q0 ∉ qs := fun hm => by
        obtain ⟨j, hj⟩ := List.mem_iff_getElem?.mp hm
        have hjl := (List.getElem?_eq_some_iff.mp hj).1
        obtain ⟨pj, hpj⟩ := get_of (l := ps) (i := j) rfl (by omega)
        obtain ⟨nj, hnj⟩ := get_of (l := ns) (i := j) rfl (by omega)
        have := (hall j pj q0 nj hpj hj hnj).2.1
        rw [e3 _ _ this] at hq0
        cases hq0
      refine ⟨_, hD5, sz_lt (by rw [List.length_map]; omega), ps ++ [p0], qs ++ [q0], by rw [List.length_append, hps]; rfl, by rw [List.length_append, hqs]; rfl, Ex.mut (eH.trans (e3.trans x5)) hD1, by rw [upd_same, List.map_append]; rfl, ?_, fun j pj qj nj hpj hqj hnj => ?_⟩
      · rw [List.nodup_append]
        exact ⟨hqn, by simp, fun u hu v hv => by
          rw [List.mem_singleton.mp hv]
          exact fun z => nqn (z ▸ hu)⟩
      · rcases snoc_at hps hpj with ⟨hj, hpj⟩ | ⟨rfl, rfl⟩
        · rcases snoc_at hqs hqj with ⟨_, hqj⟩ | ⟨hj2, _⟩
          · obtain ⟨g1, g2, g3, g4⟩ := hall j pj qj nj hpj hqj hnj
            have g1' := (e3.trans x5) _ _ g1
            refine ⟨?_, ?_, g3, g4⟩
            · rw [upd_ne (ne_of g1' hD5 (by intro z; cases z))]
              exact g1'
            · rw [upd_ne g4]
              exact (e3.trans x5) _ _ g2
          · omega
        · rcases snoc_at hqs hqj with ⟨hj2, _⟩ | ⟨_, rfl⟩
          · omega
          · rw [hn] at hnj
            cases hnj
            refine ⟨?_, ?_, fresh_back (eH.trans e3) hq0, nqD⟩
            · rw [upd_ne (ne_of hp5 hD5 (by intro z; cases z))]
              exact hp5
            · rw [upd_ne nqD]
              exact hq5
    obtain ⟨ps, qs, hps, hqs, eH, hDl, hqn, hall⟩ := p
    rw [nsl] at hps hqs
    -- the dict
    let ff : Str → Addr := fun n => qs.getD (ns.idxOf n) 0
    have hff : ∀ (j : Nat) n, ns[j]? = some n → qs[j]? = some (ff n) := fun j n h => by
      have hj := (List.getElem?_eq_some_iff.mp h).1
      obtain ⟨q0, hq0⟩ := get_of (l := qs) (i := j) hqs hj
      show qs[j]? = some (qs.getD (ns.idxOf n) 0)
      rw [idx_at nd h, getD_of hq0, hq0]
    refine ⟨D1, ps, ns.map fun n => ((Sum.inr n : Key), V.ref (ff n)), rfl, sq_of hDl, paired_of (by rw [List.length_map, hps]) fun j p kv hp hkv => ?_, fun d hd0 => ?_⟩
    · obtain ⟨n, hn, rfl⟩ := map_at hkv
      exact st_of (hall j p (ff n) n hp (hff j n hn) hn).1
    have knd : ((ns.map fun n => ((Sum.inr n : Key), V.ref (ff n))).map (·.1)).Nodup := by
      rw [List.map_map]
      exact List.pairwise_map.mpr (nd.imp fun h z => h (Sum.inr.inj z))
    have P0 : Pays a l c H (upd H2 d (.dK (mergeK [] (ns.map fun n => ((Sum.inr n : Key), V.ref (ff n)))))) d ns (mergeK [] (ns.map fun n => ((Sum.inr n : Key), V.ref (ff n)))) ff (fun _ => []) := by
      have nd0 := (hD.mono eH).fresh hd0
      refine ⟨upd_same, fun n hn => ?_, fun n hn m hm e => ?_, fun n hn => ?_, ⟨nd0.1, nd0.2.1⟩, fun n hn => ?_⟩
      · obtain ⟨j, hj⟩ := List.mem_iff_getElem?.mp hn
        exact valV_merge_get (i := j) knd (by rw [List.getElem?_map, hj]; rfl)
      · obtain ⟨j, hj⟩ := List.mem_iff_getElem?.mp hn
        obtain ⟨i, hi⟩ := List.mem_iff_getElem?.mp hm
        have a1 := hff j n hj
        have a2 := hff i m hi
        rw [e, ← a2] at a1
        have hjl := (List.getElem?_eq_some_iff.mp hj).1
        have := (List.getElem?_inj (by rw [hqs]; exact hjl) hqn).mp a1
        rw [this, hi] at hj
        exact (Option.some.inj hj).symm
      · obtain ⟨j, hj⟩ := List.mem_iff_getElem?.mp hn
        have hjl := (List.getElem?_eq_some_iff.mp hj).1
        obtain ⟨p0, hp0⟩ := get_of (l := ps) (i := j) hps hjl
        have h3 := (hall j p0 _ n hp0 (hff j n hj) hj).2.2.1
        exact ⟨h3, hD.fresh h3⟩
      · obtain ⟨j, hj⟩ := List.mem_iff_getElem?.mp hn
        have hjl := (List.getElem?_eq_some_iff.mp hj).1
        obtain ⟨p0, hp0⟩ := get_of (l := ps) (i := j) hps hjl
        have h2 := (hall j p0 _ n hp0 (hff j n hj) hj).2.1
        exact ⟨[], by rw [upd_ne (ne_of_none h2 hd0)]; exact h2, .nil⟩
    have e03 : Ex H (upd H2 d (.dK (mergeK [] (ns.map fun n => ((Sum.inr n : Key), V.ref (ff n)))))) := eH.trans (Ex.new hd0)
    generalize mergeK [] (ns.map fun n => ((Sum.inr n : Key), V.ref (ff n))) = kvs at P0 e03
    generalize upd H2 d (.dK kvs) = H3 at P0 e03
    have d3 := hD.mono e03
    clear hall hDl eH hps hqs hqn knd hff hd0
    clear_value ff
    -- cash
    refine ⟨.ref nl, rfl, nl, rfl, ⟨_, sq_of (e03 _ _ hnl)⟩, fun D2 hD2 => ?_⟩
    have nD2 := d3.fresh hD2
    refine lc_list (xs := ns.map V.str) (fun i H' => ∃ (ps : List Addr) (cs : List Int), ps.length = i ∧ cs.length = i ∧ ExD a l H3 H' ∧ Dr a l c (N + i) H' ∧ H' D2 = some (.lst (ps.map V.ref)) ∧ (∀ z ∈ cs, 0 ≤ z ∧ z ≤ (top : Int) + 2) ∧ ∀ (j : Nat) p z n, ps[j]? = some p → cs[j]? = some z → ns[j]? = some n → H' p = some (.tup [.str n, .int z]))
      ⟨[], [], rfl, rfl, ExD.of (Ex.new hD2), d3.upd nD2, upd_same, fun z h => (by cases h), fun j p q n h => by simp at h⟩ (fun i H' _ p => ?_) (fun i x H' hx p => ?_) (fun H4 p => ?_)
    · obtain ⟨_, _, _, _, e, _⟩ := p
      exact sq_of (e _ _ (e03 _ _ hnl) nna nnl)
    · obtain ⟨ps, cs, hps, hcs, eH, dH, hDl, hcz, hall⟩ := p
      obtain ⟨n, hn, rfl⟩ := map_at hx
      have hi := (List.getElem?_eq_some_iff.mp hn).1
      refine ⟨rfl, et_yes (σ := [some (.ref a), some (.ref nl), some (.int (most : Nat)), some (.int (top : Nat)), none, none, some (.str n), none, none, none, none, none, none, none]) (H := H') H' (Ex.refl _) _ fun H5 e5 => ?_⟩
      rw [if_pos rfl]
      refine ⟨.str n, rfl, ?_⟩
      refine do_pickL (a := a) rfl (el_lst (ea_cons (ev_c (v := .int 0)) (ea_cons (ev_c (v := .int 0)) (ea_cons (ev_c (v := .int 1)) (ea_cons (ev_c (v := .int 2)) (ea_cons (ev_var (i := 3) rfl) ea_nil))))) (by show 5 ≤ 100000; omega)) (dH.mono e5) (by omega) (by show 0 < 5; omega) (by show 5 < 100000; omega) fun vz H6 hz d6 e6 => ?_
      obtain ⟨z, rfl, z0, z1⟩ : ∃ z : Int, vz = .int z ∧ 0 ≤ z ∧ z ≤ (top : Int) + 2 := by
        simp only [List.mem_cons, List.not_mem_nil, or_false] at hz
        rcases hz with rfl | rfl | rfl | rfl | rfl <;> exact ⟨_, rfl, by omega, by omega⟩
      refine ⟨by show 2 ≤ sizeLine; decide, fun p0 hp0 => ?_⟩
      have x6 : ExD a l H' (upd H6 p0 (.tup [.str n, .int z])) := ((ExD.of e5).trans e6).trans (ExD.of (Ex.new hp0))
      have d7 := d6.upd (p := p0) (o := .tup [.str n, .int z]) (d6.fresh hp0)
      have hp7 : (upd H6 p0 (.tup [.str n, .int z])) p0 = some (.tup [.str n, .int z]) := upd_same
      generalize upd H6 p0 (.tup [.str n, .int z]) = H7 at x6 d7 hp7
      have hD7 := x6 _ _ hDl nD2.1 nD2.2.1
      refine ⟨_, hD7, sz_lt (by rw [List.length_map]; omega), ps ++ [p0], cs ++ [z], by rw [List.length_append, hps]; rfl, by rw [List.length_append, hcs]; rfl, (eH.trans x6).mut hD2, d7.upd nD2, by rw [upd_same, List.map_append]; rfl, fun u hu => ?_, fun j pj zj nj hpj hqj hnj => ?_⟩
      · rcases List.mem_append.mp hu with h | h
        · exact hcz u h
        · rw [List.mem_singleton.mp h]
          exact ⟨z0, z1⟩
      · rcases snoc_at hps hpj with ⟨hj, hpj⟩ | ⟨rfl, rfl⟩
        · rcases snoc_at hcs hqj with ⟨_, hqj⟩ | ⟨hj2, _⟩
          · have g1 := dH.tx x6 _ _ (hall j pj zj nj hpj hqj hnj)
            rw [upd_ne (ne_of g1 hD7 (by intro z; cases z))]
            exact g1
          · omega
        · rcases snoc_at hcs hqj with ⟨hj2, _⟩ | ⟨_, rfl⟩
          · omega
          · rw [hn] at hnj
            cases hnj
            rw [upd_ne (ne_of hp7 hD7 (by intro z; cases z))]
            exact hp7
    obtain ⟨ps, cs, hps, hcs, eH, d4, hDl, hcz, hall⟩ := p
    rw [nsl] at hps hcs d4
    have P4 := P0.exD d3 eH
    have e04 : ExD a l H H4 := (ExD.of e03).trans eH
    let CC : Str → Int := fun n => cs.getD (ns.idxOf n) 0
    have hCC : ∀ (j : Nat) n, ns[j]? = some n → cs[j]? = some (CC n) := fun j n h => by
      have hj := (List.getElem?_eq_some_iff.mp h).1
      obtain ⟨q0, hq0⟩ := get_of (l := cs) (i := j) hcs hj
      show cs[j]? = some (cs.getD (ns.idxOf n) 0)
      rw [idx_at nd h, getD_of hq0, hq0]
    refine ⟨D2, ps, ns.map fun n => ((Sum.inr n : Key), V.int (CC n)), rfl, sq_of hDl, paired_of (by rw [List.length_map, hps]) fun j p kv hp hkv => ?_, fun d2 hd20 => ?_⟩
    · obtain ⟨n, hn, rfl⟩ := map_at hkv
      exact st_of (hall j p (CC n) n hp (hCC j n hn) hn)
    have knd : ((ns.map fun n => ((Sum.inr n : Key), V.int (CC n))).map (·.1)).Nodup := by
      rw [List.map_map]
      exact List.pairwise_map.mpr (nd.imp fun h z => h (Sum.inr.inj z))
    have hC0 : ∀ n ∈ ns, 0 ≤ CC n ∧ CC n ≤ (top : Int) + 2 := fun n hn => by
      obtain ⟨j, hj⟩ := List.mem_iff_getElem?.mp hn
      exact hcz _ (List.mem_of_getElem? (hCC j n hj))
    have hcv : ∀ n ∈ ns, valV (mergeK [] (ns.map fun n => ((Sum.inr n : Key), V.int (CC n)))) (Sum.inr n) = some (.int (CC n)) := fun n hn => by
      obtain ⟨j, hj⟩ := List.mem_iff_getElem?.mp hn
      exact valV_merge_get (i := j) knd (by rw [List.getElem?_map, hj]; rfl)
    generalize mergeK [] (ns.map fun n => ((Sum.inr n : Key), V.int (CC n))) = kvc at hcv
    have nd2 := d4.fresh hd20
    have e5' : Ex H4 (upd H4 d2 (.dK kvc)) := Ex.new hd20
    have hd25 : (upd H4 d2 (.dK kvc)) d2 = some (.dK kvc) := upd_same
    generalize upd H4 d2 (.dK kvc) = H5 at e5' hd25
    refine ⟨by show 2 ≤ sizeLine; decide, fun tp htp => ?_⟩
    refine g_tup2 (x := .ref d) (y := .ref d2) upd_same ?_
    have e56 := e5'.trans (Ex.new (o := .tup [.ref d, .ref d2]) htp)
    have hd26 : (upd H5 tp (.tup [.ref d, .ref d2])) d2 = some (.dK kvc) := by
      rw [upd_ne (ne_of_none hd25 htp)]
      exact hd25
    generalize upd H5 tp (.tup [.ref d, .ref d2]) = H6 at e56 hd26
    have P6 := P4.ex e56
    have d6 := d4.mono e56
    have e06 := e04.trans (ExD.of e56)
    clear P4 d4 e04 eH hDl hcz hall hCC knd hcs hps hd25 e5' e56 P0 d3 e03
    clear_value CC
    -- what holds all along
    let IN : Nat → Hp → Prop := fun M H' => ∃ F, OkF ns most (top : Int) F ∧ Pays a l c H H' d ns kvs ff F ∧ Dr a l c M H' ∧ ExD a l H H' ∧ H' d2 = some (.dK kvc)
    have nd2f : ∀ n ∈ ns, d2 ≠ ff n := fun n hn z => by
      obtain ⟨ps0, h0, _⟩ := P6.pl n hn
      rw [← z, hd26] at h0
      cases h0
    have hin6 : IN (N + 20) H6 := ⟨fun _ => [], ⟨fun n _ => Nat.zero_le _, fun n _ x hx => by cases hx⟩, P6, d6.up (by omega), e06, hd26⟩
    have INex : ∀ {M M' H' H''}, IN M H' → M ≤ M' → Ex H' H'' → IN M' H'' := fun {M M' H' H''} h hm e => by
      obtain ⟨F, g1, g2, g3, g4, g5⟩ := h
      exact ⟨F, g1, g2.ex e, (g3.mono e).up hm, g4.trans (ExD.of e), e _ _ g5⟩
    clear P6 d6 e06 hd26
    have hst : ((List.set (L2.start N__law_lists [V.ref a, V.ref nl, V.int (most : Nat), V.int (top : Nat)]) 4 (some (V.ref d))).set 5 (some (V.ref d2))) = [some (.ref a), some (.ref nl), some (.int (most : Nat)), some (.int (top : Nat)), some (.ref d), some (.ref d2), none, none, none, none, none, none, none, none] := rfl
    rw [hst]
    dsimp only
    refine q_forRD 4 (by decide)
      (fun i σ' H' => ∃ (y7 y8 y9 y10 y11 : Option V), σ' = [some (.ref a), some (.ref nl), some (.int (most : Nat)), some (.int (top : Nat)), some (.ref d), some (.ref d2), none, y7, y8, y9, y10, y11, none, none] ∧ IN (N + 21 + 50 * i) H') (fun R hR => ?_) (fun i σ' H' hi hP => ?_) (fun n σ' H' hn hP => ?_)
    · obtain ⟨F, g1, g2, g3, g4, g5⟩ := hin6
      refine do_take (H := H6) (size := 4) (ea_cons (ev_var rfl) (ea_cons ev_c ea_nil)) g3 (by omega) (by decide) (by decide) (Ex.refl _) fun v H7 v0 v1 d7 e7 => ?_
      obtain ⟨m, rfl⟩ := Int.eq_ofNat_of_zero_le v0
      refine ⟨1, (m : Int), rfl, rfl, ?_⟩
      show R [V.int ((1 : Int) + (m : Int))] H7
      rw [show (1 : Int) + (m : Int) = ((m + 1 : Nat) : Int) by omega]
      exact hR (m + 1) H7 (by omega) ⟨none, none, none, none, none, rfl, F, g1, g2.exD g3 e7, d7, g4.trans e7, e7 _ _ g5 nd2.1 nd2.2.1⟩
    · -- a ring
      obtain ⟨y7, y8, y9, y10, y11, rfl, F, g1, g2, g3, g4, g5⟩ := hP
      have hnl' := g4 _ _ hnl nna nnl
      refine do_shufCut (K := K) (a := a) (l := l) (c := c) (N := N + 21 + 50 * i) (M := N + 21 + 50 * i + 21) (ns := ns) (nl := nl) (σ := [some (.ref a), some (.ref nl), some (.int (most : Nat)), some (.int (top : Nat)), some (.ref d), some (.ref d2), none, some (.int (i : Int)), y8, y9, y10, y11, none, none]) (H := H') rfl rfl hnl' g3 (by omega) n20 (fun z hz => (hgood z hz).2) (fun m => 2 ≤ m) (fun H7 R d7 e7 hR => ?_) fun sm zs m H8 hsm0 hsm hm2 hzl hznd hzin d8 e8 => ?_
      · refine do_take (H := H7) (size := (ns.length : Int) - 1) (ea_cons (ev_var rfl) (ea_cons (ev_sub (ev_is (ev_len (K := K) (xs := ns.map V.str) (ev_var (i := 1) rfl) (sq_of (e7 _ _ hnl' nna nnl))) (by rw [nsl])) ev_c) ea_nil)) d7 (by omega) (by omega) (by omega) (Ex.refl _) fun v H9 v0 v1 d9 e9 => ?_
        obtain ⟨m, rfl⟩ := Int.eq_ofNat_of_zero_le v0
        refine ⟨2, (m : Int), rfl, rfl, ⟨(2 : Int) + (m : Int), rfl, ?_⟩⟩
        rw [show (2 : Int) + (m : Int) = ((2 + m : Nat) : Int) by omega]
        exact hR (2 + m) H9 (by omega) (d9.up (by omega)) e9
      have hz2' : 2 ≤ zs.length := by omega
      have hz20 : zs.length ≤ 20 := by omega
      have hznd := hznd nd
      have nsm := g3.fresh hsm0
      have nsmf : ∀ n ∈ ns, sm ≠ ff n := fun n hn z => by
        obtain ⟨ps0, h0, _⟩ := g2.pl n hn
        rw [← z, hsm0] at h0
        cases h0
      have nsmd : sm ≠ d2 := fun z => by
        rw [← z, hsm0] at g5
        cases g5
      have g2 := g2.exD g3 e8
      have g4 := g4.trans e8
      have g5 := e8 _ _ g5 nd2.1 nd2.2.1
      -- amount, is_even
      refine do_take (H := H8) (size := (top : Int)) (ea_cons (ev_var rfl) (ea_cons (ev_var (i := 3) rfl) ea_nil)) d8 (by omega) (by omega) (by omega) (Ex.refl _) fun am H9 a0 a1 d9 e9 => ?_
      refine ⟨1, am, rfl, rfl, ?_⟩
      refine do_take (H := H9) (size := 3) (ea_cons (ev_var rfl) (ea_cons ev_c ea_nil)) d9 (by omega) (by decide) (by decide) (Ex.refl _) fun evI H10 _ _ d10 e10 => ?_
      refine ⟨evI, 0, rfl, rfl, ⟨_, _, rfl, ?_⟩⟩
      have e810 := e9.trans e10
      have hsm10 := e810 _ _ hsm nsm.1 nsm.2.1
      dsimp only
      generalize decide ((0 : Int) < evI) = isE
      refine s_forR1 (n := (zs.length : Int)) (σ := [some (.ref a), some (.ref nl), some (.int (most : Nat)), some (.int (top : Nat)), some (.ref d), some (.ref d2), none, some (.int (i : Int)), some (.ref sm), some (.int (1 + am)), some (.bl isE), y11, none, none]) (ea_cons (ev_is (ev_len (K := K) (xs := zs.map V.str) (ev_var (i := 8) rfl) (sq_of hsm10)) (by rw [List.length_map])) ea_nil) (by omega)
        (fun j σ' H' => ∃ y11 : Option V, σ' = [some (.ref a), some (.ref nl), some (.int (most : Nat)), some (.int (top : Nat)), some (.ref d), some (.ref d2), none, some (.int (i : Int)), some (.ref sm), some (.int (1 + am)), some (.bl isE), y11, none, none] ∧ IN (N + 21 + 50 * i + 23 + j) H' ∧ H' sm = some (.lst (zs.map V.str)))
        (fun H11 e11 => ⟨y11, rfl, INex ⟨F, g1, g2.exD d8 e810, d10.up (by omega), g4.trans e810, e810 _ _ g5 nd2.1 nd2.2.1⟩ (Nat.le_refl _) e11, e11 _ _ hsm10⟩) (fun j σ' H11 hj hP => ?_) (fun σ' H11 hP => ?_)
      · obtain ⟨y11, rfl, ⟨F, g1, g2, g3, g4, g5⟩, hsm11⟩ := hP
        have hj' : j < zs.length := by omega
        obtain ⟨jp, one, hone, hjp, hprev⟩ := at_prev hj'
        obtain ⟨o, ho⟩ := get_of (l := zs) (i := j) rfl hj'
        have hne : o ≠ one := fun z => by
          rw [z, ← hone] at ho
          have := (List.getElem?_inj hj' hznd).mp ho
          omega
        refine s_payIf (K := K) (one := one) (o := o) (σ := [some (.ref a), some (.ref nl), some (.int (most : Nat)), some (.int (top : Nat)), some (.ref d), some (.ref d2), none, some (.int (i : Int)), some (.ref sm), some (.int (1 + am)), some (.bl isE), some (.int (j : Int)), none, none]) rfl rfl g2 g1 m60 g3 g4 (hzin one (List.mem_of_getElem? hone))
          (ev_op (ev_var (i := 8) rfl) (ev_sub (ev_var (i := 11) rfl) ev_c) (rv_ixL (sq_of hsm11) hprev)) (ev_op (ev_var (i := 8) rfl) (ev_var (i := 11) rfl) (rv_ixL (sq_of hsm11) (at_of (j := j) rfl (by rw [List.getElem?_map, ho]; rfl)))) (hzin o (List.mem_of_getElem? ho)) hne
          (fun H12 e12 d12 Q' q' => ?_) fun F' H12 g1' g2' g3' g4' hrest => ?_
        · refine (et_B (ev_var (i := 10) rfl)) H12 (Ex.refl _) _ fun H13 e13 => ?_
          cases isE with
          | true =>
            rw [if_pos rfl]
            exact ⟨_, rfl, q' _ H13 (by omega) (by omega) ((d12.mono e13).up (by omega)) (ExD.of e13)⟩
          | false =>
            rw [if_neg Bool.false_ne_true]
            refine do_take (H := H13) (size := (top : Int)) (ea_cons (ev_var rfl) (ea_cons (ev_var (i := 3) rfl) ea_nil)) (d12.mono e13) (by omega) (by omega) (by omega) (Ex.refl _) fun am H14 a0 a1 d14 e14 => ?_
            exact ⟨1, am, rfl, rfl, q' _ H14 (by omega) (by omega) d14 ((ExD.of e13).trans e14)⟩
        · exact ⟨_, rfl, ⟨F', g1', g2', g3', g4', hrest _ _ g5 nd2.1 nd2.2.1 nd2f⟩, hrest _ _ hsm11 nsm.1 nsm.2.1 nsmf⟩
      · obtain ⟨y11, rfl, hin, _⟩ := hP
        rw [Int.toNat_natCast] at hin
        exact ⟨_, _, _, _, _, rfl, INex hin (by omega) (Ex.refl _)⟩
    · obtain ⟨y7, y8, y9, y10, y11, rfl, hin⟩ := hP
      have hin7 : IN (N + 221) H' := INex hin (by omega) (Ex.refl _)
      clear hin
      refine q_forRD 3 (by decide)
        (fun i σ' H' => ∃ (y7 y12 y13 : Option V), σ' = [some (.ref a), some (.ref nl), some (.int (most : Nat)), some (.int (top : Nat)), some (.ref d), some (.ref d2), none, y7, y8, y9, y10, y11, y12, y13] ∧ IN (N + 222 + 25 * i) H') (fun R hR => ?_) (fun i σ' H' hi hP => ?_) (fun n σ' H' hn hP => ?_)
      · obtain ⟨F, g1, g2, g3, g4, g5⟩ := hin7
        refine do_take (H := H') (size := 4) (ea_cons (ev_var rfl) (ea_cons ev_c ea_nil)) g3 (by omega) (by decide) (by decide) (Ex.refl _) fun v H7 v0 v1 d7 e7 => ?_
        obtain ⟨m, rfl⟩ := Int.eq_ofNat_of_zero_le v0
        exact hR m H7 (by omega) ⟨y7, none, none, rfl, F, g1, g2.exD g3 e7, d7, g4.trans e7, e7 _ _ g5 nd2.1 nd2.2.1⟩
      · obtain ⟨y7, y12, y13, rfl, F, g1, g2, g3, g4, g5⟩ := hP
        have hnl' := g4 _ _ hnl nna nnl
        refine do_shufCut (K := K) (a := a) (l := l) (c := c) (N := N + 222 + 25 * i) (M := N + 222 + 25 * i + 20) (ns := ns) (nl := nl) (σ := [some (.ref a), some (.ref nl), some (.int (most : Nat)), some (.int (top : Nat)), some (.ref d), some (.ref d2), none, some (.int (i : Int)), y8, y9, y10, y11, y12, y13]) (H := H') rfl rfl hnl' g3 (by omega) n20 (fun z hz => (hgood z hz).2) (fun m => m = 2) (fun H7 R d7 e7 hR => ⟨2, rfl, hR 2 H7 rfl (d7.up (by omega)) (ExD.refl _)⟩) fun sm zs m H8 hsm0 hsm hm2 hzl hznd hzin d8 e8 => ?_
        have hznd := hznd nd
        obtain ⟨one, o, rfl⟩ : ∃ x y, zs = [x, y] := by
          match zs, (show zs.length = 2 by omega) with
          | [x, y], _ => exact ⟨x, y, rfl⟩
        refine ⟨sm, [.str one, .str o], rfl, sq_of hsm, rfl, .str one, [.str o], rfl, .str o, [], rfl, rfl, ?_⟩
        have hne : o ≠ one := fun z => by
          rw [z] at hznd
          exact absurd hznd (by simp)
        have g2 := g2.exD g3 e8
        have g4 := g4.trans e8
        have g5 := e8 _ _ g5 nd2.1 nd2.2.1
        refine s_payIf (K := K) (one := one) (o := o) (σ := [some (.ref a), some (.ref nl), some (.int (most : Nat)), some (.int (top : Nat)), some (.ref d), some (.ref d2), none, some (.int (i : Int)), y8, y9, y10, y11, some (.str one), some (.str o)]) rfl rfl g2 g1 m60 d8 g4 (hzin one List.mem_cons_self)
          (ev_var (i := 12) rfl) (ev_var (i := 13) rfl) (hzin o (List.mem_cons_of_mem _ List.mem_cons_self)) hne
          (fun H12 e12 d12 Q' q' => ?_) fun F' H12 g1' g2' g3' g4' hrest => ?_
        · refine do_take (H := H12) (size := (top : Int)) (ea_cons (ev_var rfl) (ea_cons (ev_var (i := 3) rfl) ea_nil)) d12 (by omega) (by omega) (by omega) (Ex.refl _) fun am H14 a0 a1 d14 e14 => ?_
          exact ⟨1, am, rfl, rfl, q' _ H14 (by omega) (by omega) d14 e14⟩
        · exact ⟨_, _, _, rfl, INex ⟨F', g1', g2', g3', g4', hrest _ _ g5 nd2.1 nd2.2.1 nd2f⟩ (by omega) (Ex.refl _)⟩
      · obtain ⟨y7, y12, y13, rfl, F, g1, g2, g3, g4, g5⟩ := hP
        have hnl' := g4 _ _ hnl nna nnl
        -- sorted(names)
        refine ⟨.ref nl, rfl, nl, ns, rfl, sq_of hnl', by omega, fun ys sp hperm hsort hsp0 => ?_⟩
        have x1 : Ex H' (upd H' sp (.lst (ys.map V.str))) := Ex.new hsp0
        have hsp1 : (upd H' sp (.lst (ys.map V.str))) sp = some (.lst (ys.map V.str)) := upd_same
        generalize upd H' sp (.lst (ys.map V.str)) = H7 at x1 hsp1
        have hyl := hperm.length_eq
        have hasc := sorted_asc hsort (hperm.nodup_iff.mpr nd)
        have hyin : ∀ z ∈ ys, z ∈ ns := fun z hz => hperm.mem_iff.mp hz
        refine ⟨sp, rfl, ⟨_, sq_of hsp1⟩, ?_⟩
        have ysl : (ys.map V.str).length = ys.length := List.length_map ..
        have hrows : ∀ (j : Nat) n, ys[j]? = some n → (mkRows CC F ys)[j]? = some (n, CC n, F n) := fun j n h => by
          unfold mkRows
          rw [List.getElem?_map, h]
          rfl
        refine lc_G (σ := [some (.ref a), some (.ref nl), some (.int (most : Nat)), some (.int (top : Nat)), some (.ref d), some (.ref d2), none, y7, y8, y9, y10, y11, y12, y13]) (vs := [6]) (walk_list (K := K) (a := sp) (xs := ys.map V.str)) (fun H3 e3 => sq_of (e3 _ _ hsp1)) (by rw [ysl]; omega) (fun i v H => ∃ p, v = .ref p ∧ RowH H p ((mkRows CC F ys).getD i rowD)) (fun i v H1 H2 e ⟨p, hv, hp⟩ => ⟨p, hv, hp.tx e⟩) (fun i x H1 H2 e1 hi hy => ?_) fun rl rs H8 hrl0 e8 hrl hrows2 => ?_
        · obtain ⟨rfl, hx⟩ := hy
          obtain ⟨n, hn, rfl⟩ := map_at hx
          have hnin := hyin n (List.mem_of_getElem? hn)
          refine ⟨Ex.refl _, _, fun R h => h, rfl, et_yes, ?_⟩
          obtain ⟨ps, hpl, hpr⟩ := g2.pl n hnin
          intro H3 e3 Q' q'
          have e13 := x1.trans (e1.trans e3)
          refine ⟨.str n, rfl, ?_⟩
          refine ev_dget (σ := [some (.ref a), some (.ref nl), some (.int (most : Nat)), some (.int (top : Nat)), some (.ref d), some (.ref d2), some (.str n), y7, y8, y9, y10, y11, y12, y13]) (k := Sum.inr n) (ev_var (i := 5) rfl) (ev_var (i := 6) rfl) (e13 _ _ g5) (hcv n hnin) H3 (Ex.refl _) _ fun H4 e4 => ?_
          refine eu_tupQ (K := K) (σ := [some (.ref a), some (.ref nl), some (.int (most : Nat)), some (.int (top : Nat)), some (.ref d), some (.ref d2), some (.str n), y7, y8, y9, y10, y11, y12, y13]) (H := H4) (eql_ev (ev_dget (k := Sum.inr n) (ev_var (i := 4) rfl) (ev_var (i := 6) rfl) ((e13.trans e4) _ _ g2.hd) (g2.hv n hnin)) (sq_of ((e13.trans e4) _ _ hpl))) H4 (Ex.refl _) _ fun tq H5 htq0 e5 htq => ?_
          refine ⟨by show 3 ≤ sizeLine; decide, fun p hp => ?_⟩
          have e35 := e4.trans e5
          refine q' _ _ (e35.trans (Ex.new hp)) ⟨p, rfl, tq, ?_, ps, ?_, ?_⟩
          · rw [getD_of (hrows i n hn)]
            exact upd_same
          · rw [upd_ne (ne_of_none htq hp)]
            exact htq
          · rw [getD_of (hrows i n hn)]
            exact L2.Paired.mapP hpr fun _ _ z => z.tx (TX.of ((e13.trans e35).trans (Ex.new hp)))
        refine ⟨rl, _, rfl, Or.inl ⟨sq_of hrl, fun tl htl => ?_⟩⟩
        refine ⟨by show 2 ≤ sizeLine; decide, fun p hp => ?_⟩
        have e9 : Ex H8 (upd H8 tl (.tup rs)) := Ex.new htl
        have e10 := e9.trans (Ex.new (o := .tup [.str "queues", .ref tl]) hp)
        have e710 := x1.trans (e8.trans e10)
        rw [ysl] at hrows2
        obtain ⟨ps, rfl, hps⟩ : ∃ ps : List Addr, rs = ps.map V.ref ∧ Paired (RowH H8) ps (mkRows CC F ys) := by
          have hl := paired_len hrows2
          rw [List.length_range] at hl
          have gen : ∀ (is : List Nat) (rs : List V), Paired (fun i y => ∃ p, y = V.ref p ∧ RowH H8 p ((mkRows CC F ys).getD i rowD)) is rs → ∃ ps : List Addr, rs = ps.map V.ref ∧ Paired (RowH H8) ps (is.map fun i => (mkRows CC F ys).getD i rowD) := fun is rs h => by
            induction h with
            | nil => exact ⟨[], rfl, .nil⟩
            | cons h1 _ ih =>
              obtain ⟨p, e, hp⟩ := h1
              obtain ⟨ps, e2, h2⟩ := ih
              exact ⟨p :: ps, by rw [e, e2]; rfl, .cons hp h2⟩
          obtain ⟨ps, e, h2⟩ := gen _ _ hrows2
          refine ⟨ps, e, ?_⟩
          have hml : ys.length = (mkRows CC F ys).length := by
            unfold mkRows
            rw [List.length_map]
          rw [hml, map_range_getD rowD (fun x => x) (mkRows CC F ys), List.map_id'] at h2
          exact h2
        have hnm : names (mkRows CC F ys) = ys := by
          unfold mkRows
          show List.map _ (List.map _ ys) = ys
          rw [List.map_map]
          exact List.map_id' ys
        have hrm : ∀ r ∈ mkRows CC F ys, ∃ n ∈ ns, r = (n, CC n, F n) := fun r hr => by
          obtain ⟨n, hn, e⟩ := List.mem_map.mp hr
          exact ⟨n, hyin n hn, e.symm⟩
        have hrl' : (mkRows CC F ys).length = ns.length := by
          unfold mkRows
          rw [List.length_map, hyl]
        refine q p (mkRows CC F ys) _ ⟨by omega, by omega, by rw [hnm]; exact hasc, fun r hr => ?_, fun r hr => ?_, fun r hr => ?_, fun r hr => ?_⟩ (by rw [hnm]; exact hperm) (fun r hr => ?_) ⟨tl, upd_same, ps, ?_, L2.Paired.mapP hps fun _ _ z => z.tx (TX.of e10)⟩ ((g3.mono e710).up (by omega)) (g4.trans (ExD.of e710))
        · obtain ⟨n, hn, rfl⟩ := hrm r hr
          exact (hgood n hn).1
        · obtain ⟨n, hn, rfl⟩ := hrm r hr
          exact (hC0 n hn).1
        · obtain ⟨n, hn, rfl⟩ := hrm r hr
          have := (hC0 n hn).2
          show CC n ≤ 1000000
          omega
        · obtain ⟨n, hn, rfl⟩ := hrm r hr
          rw [hnm]
          refine ⟨?_, fun x hx => (g1.each n hn x hx).1, fun x hx => hperm.mem_iff.mpr (g1.each n hn x hx).2.1, fun x hx => (g1.each n hn x hx).2.2.1, fun x hx => ?_⟩
          · have := g1.len n hn
            show (F n).length ≤ 60
            omega
          · have := (g1.each n hn x hx).2.2.2
            omega
        · obtain ⟨n, hn, rfl⟩ := hrm r hr
          exact ⟨g1.len n hn, (hC0 n hn).2, fun x hx => (g1.each n hn x hx).2.2.2⟩
        · rw [upd_ne (ne_of_none (upd_same (H := H8) (a := tl) (o := .tup (ps.map V.ref))) hp)]
          exact upd_same
end
end NQ
namespace NQ
open PySem PySem.Spec PyProof.Rows L2 Evl
open KQ (Row held bump drop bump_same bump_ne drop_same drop_ne)
/-! ### queues as the law's own sums take them -/
structure WellQ (qs : List (Row Str)) : Prop where
  nd : (names qs).Nodup
  l40 : qs.length ≤ 40
  pos : ∀ r ∈ qs, ∀ x ∈ r.2.2, 1 ≤ x.2
  len : ∀ r ∈ qs, r.2.2.length ≤ 60
  mem : ∀ r ∈ qs, ∀ x ∈ r.2.2, x.1 ∈ names qs
  ok : ∀ r ∈ qs, PyData.strOk r.1 = true
theorem WellQ.good {qs : List (Row Str)} (W : WellQ qs) : KQ.Good qs := ⟨W.nd, W.pos⟩
theorem letters_lt : ∀ c ∈ lettersS.cps.toList, c < 0x110000 := fun c hc => by
  have h : lettersS.cps.toList.all (fun c => decide (c < 0x110000)) = true := by decide +kernel
  exact of_decide_eq_true (List.all_eq_true.mp h c hc)
theorem GoodN.ok {x : Str} (g : GoodN x) : PyData.strOk x = true := by
  unfold PyData.strOk
  rw [← Array.all_toList, List.all_eq_true]
  exact fun c hc => decide_eq_true (letters_lt c (g.le c hc))
theorem GoodQ.well {qs : List (Row Str)} (G : GoodQ qs) : WellQ qs := ⟨asc_nodup G.asc, G.l40, fun r hr => (G.pay r hr).lo, fun r hr => (G.pay r hr).len, fun r hr => (G.pay r hr).mem, fun r hr => (G.nm r hr).ok⟩
/-! ### dicts of ints by the houses -/
def dI (qs : List (Row Str)) (g : Row Str → Int) : List (Key × V) := qs.map fun r => ((Sum.inr r.1 : Key), V.int (g r))
theorem valV_none {k : Key} : ∀ {kvs : List (Key × V)}, k ∉ kvs.map (·.1) → valV kvs k = none
  | [], _ => rfl
  | p :: r, h => by
    rw [valV_neg fun e => h (by rw [← e]; exact List.mem_cons_self)]
    exact valV_none fun z => h (List.mem_cons_of_mem _ z)
theorem valV_mem {k : Key} {v : V} : ∀ {kvs : List (Key × V)}, (kvs.map (·.1)).Nodup → (k, v) ∈ kvs → valV kvs k = some v
  | p :: r, nd, h => by
    obtain ⟨h1, h2⟩ := List.nodup_cons.mp nd
    rcases List.mem_cons.mp h with e | e
    · rw [valV_pos (by rw [← e]), ← e]
    · rw [valV_neg fun z => h1 (List.mem_map.mpr ⟨_, e, z.symm⟩)]
      exact valV_mem h2 e
theorem mergeK_nodup : ∀ {kvs acc : List (Key × V)}, ((acc ++ kvs).map (·.1)).Nodup → mergeK acc kvs = acc ++ kvs
  | [], acc, _ => by rw [List.append_nil]; rfl
  | p :: r, acc, h => by
    have hp : p.1 ∉ acc.map (·.1) := by
      rw [List.map_append, List.map_cons, List.nodup_append] at h
      exact fun hm => h.2.2 _ hm _ List.mem_cons_self rfl
    have e : putK acc p.1 p.2 = acc ++ [p] := by
      unfold putK
      rw [valV_any, valV_none hp]
      rw [if_neg (by decide)]
    show mergeK (putK acc p.1 p.2) r = _
    rw [e, mergeK_nodup (by rw [List.append_assoc]; exact h), List.append_assoc]
    rfl
section
variable {qs : List (Row Str)} {g g' : Row Str → Int} {r : Row Str} {v : Int}
theorem dI_keys : (dI qs g).map (·.1) = (names qs).map (Sum.inr : Str → Key) := by
  unfold dI names
  rw [List.map_map, List.map_map]
  rfl
theorem dI_nodup (nd : (names qs).Nodup) : ((dI qs g).map (·.1)).Nodup := by
  rw [dI_keys]
  exact List.pairwise_map.mpr (nd.imp fun h z => h (Sum.inr.inj z))
theorem dI_at (nd : (names qs).Nodup) (h : r ∈ qs) : valV (dI qs g) (Sum.inr r.1) = some (.int (g r)) := valV_mem (dI_nodup nd) (List.mem_map.mpr ⟨r, h, rfl⟩)
theorem dI_none {z : Str} (h : z ∉ names qs) : valV (dI qs g) (Sum.inr z) = none := valV_none fun hm => by
  rw [dI_keys] at hm
  obtain ⟨y, hy, e⟩ := List.mem_map.mp hm
  exact h (Sum.inr.inj e ▸ hy)
theorem dI_put (nd : (names qs).Nodup) (h : r ∈ qs) (h1 : g' r = v) (h2 : ∀ q ∈ qs, q.1 ≠ r.1 → g' q = g q) : putK (dI qs g) (Sum.inr r.1) (.int v) = dI qs g' := by
  unfold putK
  rw [valV_any, dI_at nd h]
  rw [if_pos (show (some (V.int (g r))).isSome = true from rfl)]
  unfold dI
  rw [List.map_map]
  refine List.map_congr_left fun q hq => ?_
  by_cases e : q.1 = r.1
  · have := KQ.row_eq nd hq h e
    subst this
    show (if (Sum.inr q.1 : Key) = Sum.inr q.1 then _ else _) = _
    rw [if_pos rfl, h1]
  · show (if (Sum.inr q.1 : Key) = Sum.inr r.1 then _ else _) = _
    rw [if_neg fun z => e (Sum.inr.inj z), h2 q hq e]
theorem dI_merge (nd : (names qs).Nodup) : mergeK [] (dI qs g) = dI qs g := mergeK_nodup (by rw [List.nil_append]; exact dI_nodup nd)
theorem dI_len : (dI qs g).length = qs.length := List.length_map ..
theorem dI_congr (h : ∀ r ∈ qs, g r = g' r) : dI qs g = dI qs g' := List.map_congr_left fun r hr => by rw [h r hr]
end
abbrev tolK (qs : List (Row Str)) (f : Str → Nat) : List (Key × V) := dI qs fun r => ((f r.1 : Nat) : Int)
def addcash (z : Str) (v : Int) (qs : List (Row Str)) : List (Row Str) := qs.map fun r => (r.1, (if r.1 = z then r.2.1 + v else r.2.1), r.2.2)
section
variable {K : PySem.W.Frag} {σ : L2.St} {H H' : Hp} {ta tb te td ty tl : TE} {t u : TT} {x y z v : V} {tr : TA} {D : Ends} {tz tu : TS}
theorem s_dput {td ty tv : TE} {a : Addr} {k : Key} {v : V} (hv : Ev tv σ H v) (hd : Ev td σ H (.ref a)) (hk : Ev ty σ H (kV k)) (kk : ∀ H1, Ex H H1 → ∃ kvs, H1 a = some (.dK kvs) ∧ kvs.length < sizeLine ∧ D.nx σ (upd H1 a (.dK (putK kvs k v)))) :
    sDPut td ty tv D σ H := by
  refine hv H (Ex.refl H) _ fun H1 e1 => ?_
  refine hd H1 e1 _ fun H2 e2 => ?_
  refine hk H2 (e1.trans e2) _ fun H3 e3 => ?_
  obtain ⟨kvs, h1, h2, h3⟩ := kk H3 ((e1.trans e2).trans e3)
  exact ⟨a, _, rfl, DPut.k h1 h2, h3⟩
/-- dict(a comprehension of pairs) -/
theorem ed_dictG {n : Nat} (ks : Nat → Key) (w : Nat → V) (h : EvG te σ H (idxs n (fun _ => true)) (fun i v H => ∃ p, v = .ref p ∧ H p = some (.tup [kV (ks i), w i]))) : EvD (tCB (rDictL K) (tCons te tNil)) σ H (mergeK [] ((List.range n).map fun i => (ks i, w i))) := fun H1 e Q q => by
  refine h H1 e _ fun p ys H2 hp0 e2 hp hpr => ?_
  rw [idxs_all] at hpr
  have gen : ∀ (is : List Nat) (rs : List V), Paired (fun i y => ∃ p, y = V.ref p ∧ H2 p = some (.tup [kV (ks i), w i])) is rs → ∃ ps : List Addr, rs = ps.map V.ref ∧ Paired (fun p (kv : Key × V) => SqT K H2 p [kV kv.1, kv.2]) ps (is.map fun i => (ks i, w i)) := fun is rs h => by
    induction h with
    | nil => exact ⟨[], rfl, .nil⟩
    | cons h1 _ ih =>
      obtain ⟨p, e, hp⟩ := h1
      obtain ⟨ps, e2, h2⟩ := ih
      exact ⟨p :: ps, by rw [e, e2]; rfl, .cons (st_of hp) h2⟩
  obtain ⟨ps, rfl, h2⟩ := gen _ _ hpr
  exact ⟨p, ps, _, rfl, sq_of hp, h2, fun d hd => q d _ (fresh_back e2 hd) (e2.trans (Ex.new hd)) upd_same⟩
/-- dict([(house[0], e) for house in queues[1]]) -/
theorem ed_rows {qs : List (Row Str)} {b : Addr} {ps : List Addr} {j : Nat} (g : Row Str → Int) (nd : (names qs).Nodup) (l40 : qs.length ≤ 40) (h : Ev tl σ H (.ref b)) (hb : H b = some (.tup (ps.map V.ref))) (hpr : Paired (RowH H) ps qs) (hj : j < σ.length) (hw : ∀ x, wipe ((wipe σ [j]).set j (some x)) [j] = wipe σ [j])
    (he : ∀ p r q (ps' : List Addr) H1, Ex H H1 → r ∈ qs → H p = some (.tup [.str r.1, .int r.2.1, .ref q]) → H q = some (.tup (ps'.map V.ref)) → Paired (PairH H) ps' r.2.2 → Ev te ((wipe σ [j]).set j (some (.ref p))) H1 (.int (g r))) :
    EvD (tCB (rDictL K) (tCons (tLc (iTup K tl) (gName j) tYes (tTup (tCons (tOp (rIxT K) (tVar j) (tC (.int 0))) (tCons te tNil))) [j]) tNil)) σ H (dI qs g) := by
  have hlen : (ps.map V.ref).length = qs.length := by rw [List.length_map, paired_len hpr]
  have wk := ed_dictG (K := K) (te := tLc (iTup K tl) (gName j) tYes (tTup (tCons (tOp (rIxT K) (tVar j) (tC (.int 0))) (tCons te tNil))) [j]) (σ := σ) (H := H) (n := (ps.map V.ref).length) (fun i => (Sum.inr (qs.getD i rowD).1 : Key)) (fun i => V.int (g (qs.getD i rowD)))
    (el_lcG (ei_tup (K := K) (eq_ev h (st_of hb))) (by rw [hlen]; omega) (fun _ => true) _ (fun i v H1 H2 e ⟨p, hv, hp⟩ => ⟨p, hv, e _ _ hp⟩) fun i x H1 H2 e1 hi hy => by
      obtain ⟨rfl, hx⟩ := hy
      obtain ⟨p, r, rfl, _, hqr, q', hrow, ps', hp', hpr'⟩ := RowsH.at hpr hx
      refine ⟨Ex.refl _, _, fun R h => h, hw _, et_yes, fun _ => ?_⟩
      rw [getD_of hqr]
      have hget : ((wipe σ [j]).set j (some (V.ref p)))[j]? = some (some (V.ref p)) := by
        rw [List.getElem?_set_self]
        unfold wipe
        simp
        exact hj
      refine gv_W (ew_of (eu_tup (vs := [.str r.1, .int (g r)]) (ea_cons (ev_op (ev_var hget) ev_c (rv_ixT (st_of (e1 _ _ hrow)) (at_of (j := 0) rfl rfl))) (ea_cons (he p r q' ps' _ e1 (List.mem_of_getElem? hqr) hrow hp' hpr') ea_nil)) (by show 2 ≤ 100000; omega))))
  have e : (List.range (ps.map V.ref).length).map (fun i => ((Sum.inr (qs.getD i rowD).1 : Key), V.int (g (qs.getD i rowD)))) = dI qs g := by
    rw [hlen]
    exact map_range_getD rowD (fun r : Row Str => ((Sum.inr r.1 : Key), V.int (g r))) qs
  rw [e, dI_merge nd] at wk
  exact wk
end
def spStateL : Sp := fun vs H Q _ => ∃ a t qs kvs f, vs = [.ref a, .ref t] ∧ QH H a qs ∧ qs.length ≤ 40 ∧ H t = some (.dK kvs) ∧ (∀ r ∈ qs, valV kvs (Sum.inr r.1) = some (.int (f r.1 : Nat))) ∧ ∀ p H', H p = none → Ex H H' → StH H' p qs f → Q (.ref p) H'
def spHeldL : Sp := fun vs H Q _ => ∃ a t qs f, vs = [.ref a, .ref t] ∧ QH H a qs ∧ WellQ qs ∧ H t = some (.dK (tolK qs f)) ∧ KQ.Within qs f ∧ ∀ d H', H d = none → Ex H H' → H' d = some (.dK (dI qs (held qs (cashF qs) f))) → Q (.ref d) H'
def spRicher : Sp := fun vs H Q _ => ∃ a qs z v, vs = [.ref a, .str z, .int v] ∧ QH H a qs ∧ qs.length ≤ 40 ∧ ∀ p H', Ex H H' → QH H' p (recash z v qs) → Q (.ref p) H'
def spMore : Sp := fun vs H Q _ => ∃ a qs z v, vs = [.ref a, .str z, .int v] ∧ QH H a qs ∧ qs.length ≤ 40 ∧ ∀ p H', Ex H H' → QH H' p (addcash z v qs) → Q (.ref p) H'
section
variable {P : Program} {w : World} {K : PySem.W.Frag} {mg : Str → Option Value} {base : Heap} {f : Addr} {fd : FuncData} {aK : Addr} {tk : Tk}
theorem ok__law_state (F : Fun K "_law_state" "_law_state" s__law_state f fd) (T : Tx K mg aK tk) : FnOk P w K mg base CX0 1 f fd ["queues", "told"] spStateL := by
  refine F.ok sc__law_state (fun vs H Q E h => ?_) (fun cdv A outer s H vs Q E hr h => ?_)
  · obtain ⟨a, t, qs, kvs, ff, rfl, _⟩ := h
    rfl
  · obtain ⟨a, t, qs, kvs, ff, rfl, ⟨b, ha, ps, hb, hpr⟩, l40, ht, hv, k⟩ := h
    have hu := hu_of hr
    refine ⟨_, (pss_one (ps_ret (pe_callTy (crTup (K := K) rfl) (by rfl) T.tuple (by decide +kernel) (pa_cons (pe_lc (own := [("house", 2)]) rfl sc__law_state.nd (piTup (K := K) rfl (pe_ix (ixT (K := K) rfl) (pv 0) pe_int (fun _ _ => rfl))) (blkOk_by (own := [("house", 2)]) (N := N__law_state) (sc := defScope s__law_state) (by decide +kernel)) (fun _ _ _ _ _ => (pg_name (i := 2) sc__law_state.nd rfl (Or.inl rfl))) (fun _ _ _ _ _ => pts_nil) (fun _ _ _ _ _ => (pe_dget hu (pv 1) (pe_ix (ixT (K := K) rfl) (pv 2) pe_int (fun _ _ => rfl)) (fun _ _ => rfl)))) pa_nil)))), ?_⟩
    have hlen : (ps.map V.ref).length = qs.length := by rw [List.length_map, paired_len hpr]
    have wk := el_lcV (te := tDGet (tVar 1) (tOp (rIxT K) (tVar 2) (tC (.int 0)))) (tt := tYes) (g := gName 2) (vs := [2]) (σ := [some (.ref a), some (.ref t), none]) (H := H) (fun i => V.int (ff (qs.getD i rowD).1 : Nat)) (fun _ => true) (ei_tup (K := K) (eq_ev (ev_houses (K := K) (ev_var (i := 0) rfl) ha) (st_of hb))) (by rw [hlen]; omega)
      fun i x H5 H6 e5 hi hy => by
        obtain ⟨rfl, hx⟩ := hy
        obtain ⟨p, r, rfl, _, hqr, q', hrow, _⟩ := RowsH.at hpr hx
        refine ⟨Ex.refl _, _, fun R h => h, rfl, et_yes, fun _ => ?_⟩
        rw [getD_of hqr]
        exact ev_dget (k := Sum.inr r.1) (ev_var rfl) (ev_op (ev_var rfl) ev_c (rv_ixT (st_of (e5 _ _ hrow)) (at_of (j := 0) rfl rfl))) (e5 _ _ ht) (hv r (List.mem_of_getElem? hqr))
    rw [idx_map rowD (fun r : Row Str => V.int (ff r.1 : Nat)) qs hlen] at wk
    exact s_retU (eu_tupOf wk) fun p H1 hp e1 hp1 => k p H1 hp e1 hp1
theorem ok__law_richer (F : Fun K "_law_richer" "_law_richer" s__law_richer f fd) (T : Tx K mg aK tk) : FnOk P w K mg base CX0 1 f fd ["queues", "house", "cash"] spRicher := by
  refine F.ok sc__law_richer (fun vs H Q E h => ?_) (fun cdv A outer s H vs Q E hr h => ?_)
  · obtain ⟨a, qs, z, v, rfl, _⟩ := h
    rfl
  · obtain ⟨a, qs, z, v, rfl, ⟨b, ha, ps, hb, hpr⟩, g40, k⟩ := h
    have hu := hu_of hr
    refine ⟨_, (pss_one (ps_ret (pe_tup (pa_cons pe_str (pa_cons (pe_callTy (crTup (K := K) rfl) (by rfl) T.tuple (by decide +kernel) (pa_cons (pe_lc (own := [("name", 3), ("own", 4), ("payments", 5)]) rfl sc__law_richer.nd (piTup (K := K) rfl (pe_ix (ixT (K := K) rfl) (pv 0) pe_int (fun _ _ => rfl))) (blkOk_by (own := [("name", 3), ("own", 4), ("payments", 5)]) (N := N__law_richer) (sc := defScope s__law_richer) (by decide +kernel)) (fun _ _ _ _ _ => (pgTup (K := K) (n := 3) rfl rfl (pgs_cons (pg_name (i := 3) sc__law_richer.nd rfl (Or.inl rfl)) (pgs_cons (pg_name (i := 4) sc__law_richer.nd rfl (Or.inl rfl)) (pgs_cons (pg_name (i := 5) sc__law_richer.nd rfl (Or.inl rfl)) pgs_nil))))) (fun _ _ _ _ _ => pts_nil) (fun _ _ _ _ _ => (pe_tup (pa_cons (pv 3) (pa_cons (pe_ifExp (pt_cmpR op_eq (pv 3) (pv 1) (nomark _)) (pv 2) (pv 4)) (pa_cons (pv 5) pa_nil)))))) pa_nil)) pa_nil))))), ?_⟩
    have hlen : (ps.map V.ref).length = qs.length := by rw [List.length_map, paired_len hpr]
    have hl2 : (recash z v qs).length = qs.length := List.length_map ..
    refine s_retG (gv_queues (K := K) (rs := recash z v qs) (n := (ps.map V.ref).length) (by rw [hl2, hlen]) (el_lcG (ei_tup (K := K) (eq_ev (ev_houses (K := K) (ev_var (i := 0) rfl) ha) (st_of hb))) (by rw [hlen]; omega) (fun _ => true) _
      (fun i v H1 H2 e ⟨p, hv, hp⟩ => ⟨p, hv, hp.tx e⟩) fun i x H1 H2 e1 hi hy => ?_)) fun v1 H1 e1 ⟨a', hv, ha'⟩ => by
        subst hv
        exact k a' H1 e1 ha'
    obtain ⟨rfl, hx⟩ := hy
    obtain ⟨p, r, rfl, _, hqr, q', hrow, hpay⟩ := RowsH.at hpr hx
    refine ⟨Ex.refl _, _, fun R h => g_tup3 (i := 3) (j := 4) (l := 5) (e1 _ _ hrow) h, rfl, et_yes, fun _ => ?_⟩
    have er : (recash z v qs).getD i rowD = (r.1, (if r.1 = z then v else r.2.1), r.2.2) := getD_of (by unfold recash; rw [List.getElem?_map, hqr]; rfl)
    have key : Ev (tIf (tTest (tOp rEq (tVar 3) (tVar 1))) (tVar 2) (tVar 4)) [some (.ref a), some (.str z), some (.int v), some (.str r.1), some (.int r.2.1), some (.ref q')] H2 (.int (if r.1 = z then v else r.2.1)) := by
      refine ev_if (b := decide (r.1 = z)) (et_is (et_test (ev_op (ev_var rfl) (ev_var rfl) (rv_eq rfl))) (decide_eq_decide.mpr (by rw [V.str.injEq]))) (fun hb => ?_) fun hb => ?_
      · rw [if_pos (of_decide_eq_true hb)]
        exact ev_var rfl
      · rw [if_neg (of_decide_eq_false hb)]
        exact ev_var rfl
    refine (gv_tup3 (ev_var rfl) key (ev_var rfl)).imp fun v H3 e3 ⟨p2, hv, hp2⟩ => ⟨p2, hv, q', ?_, ?_⟩
    · rw [er]
      exact hp2
    · rw [er]
      exact hpay.tx (TX.of (e1.trans e3))
theorem ok__law_more (F : Fun K "_law_more" "_law_more" s__law_more f fd) (T : Tx K mg aK tk) : FnOk P w K mg base CX0 1 f fd ["queues", "house", "cash"] spMore := by
  refine F.ok sc__law_more (fun vs H Q E h => ?_) (fun cdv A outer s H vs Q E hr h => ?_)
  · obtain ⟨a, qs, z, v, rfl, _⟩ := h
    rfl
  · obtain ⟨a, qs, z, v, rfl, ⟨b, ha, ps, hb, hpr⟩, g40, k⟩ := h
    have hu := hu_of hr
    refine ⟨_, (pss_one (ps_ret (pe_tup (pa_cons pe_str (pa_cons (pe_callTy (crTup (K := K) rfl) (by rfl) T.tuple (by decide +kernel) (pa_cons (pe_lc (own := [("name", 3), ("own", 4), ("payments", 5)]) rfl sc__law_more.nd (piTup (K := K) rfl (pe_ix (ixT (K := K) rfl) (pv 0) pe_int (fun _ _ => rfl))) (blkOk_by (own := [("name", 3), ("own", 4), ("payments", 5)]) (N := N__law_more) (sc := defScope s__law_more) (by decide +kernel)) (fun _ _ _ _ _ => (pgTup (K := K) (n := 3) rfl rfl (pgs_cons (pg_name (i := 3) sc__law_more.nd rfl (Or.inl rfl)) (pgs_cons (pg_name (i := 4) sc__law_more.nd rfl (Or.inl rfl)) (pgs_cons (pg_name (i := 5) sc__law_more.nd rfl (Or.inl rfl)) pgs_nil))))) (fun _ _ _ _ _ => pts_nil) (fun _ _ _ _ _ => (pe_tup (pa_cons (pv 3) (pa_cons (pe_ifExp (pt_cmpR op_eq (pv 3) (pv 1) (nomark _)) (pe_op op_add (pv 4) (pv 2)) (pv 4)) (pa_cons (pv 5) pa_nil)))))) pa_nil)) pa_nil))))), ?_⟩
    have hlen : (ps.map V.ref).length = qs.length := by rw [List.length_map, paired_len hpr]
    have hl2 : (addcash z v qs).length = qs.length := List.length_map ..
    refine s_retG (gv_queues (K := K) (rs := addcash z v qs) (n := (ps.map V.ref).length) (by rw [hl2, hlen]) (el_lcG (ei_tup (K := K) (eq_ev (ev_houses (K := K) (ev_var (i := 0) rfl) ha) (st_of hb))) (by rw [hlen]; omega) (fun _ => true) _
      (fun i v H1 H2 e ⟨p, hv, hp⟩ => ⟨p, hv, hp.tx e⟩) fun i x H1 H2 e1 hi hy => ?_)) fun v1 H1 e1 ⟨a', hv, ha'⟩ => by
        subst hv
        exact k a' H1 e1 ha'
    obtain ⟨rfl, hx⟩ := hy
    obtain ⟨p, r, rfl, _, hqr, q', hrow, hpay⟩ := RowsH.at hpr hx
    refine ⟨Ex.refl _, _, fun R h => g_tup3 (i := 3) (j := 4) (l := 5) (e1 _ _ hrow) h, rfl, et_yes, fun _ => ?_⟩
    have er : (addcash z v qs).getD i rowD = (r.1, (if r.1 = z then r.2.1 + v else r.2.1), r.2.2) := getD_of (by unfold addcash; rw [List.getElem?_map, hqr]; rfl)
    have key : Ev (tIf (tTest (tOp rEq (tVar 3) (tVar 1))) (tOp (rI0 fun i j => .int (i + j)) (tVar 4) (tVar 2)) (tVar 4)) [some (.ref a), some (.str z), some (.int v), some (.str r.1), some (.int r.2.1), some (.ref q')] H2 (.int (if r.1 = z then r.2.1 + v else r.2.1)) := by
      refine ev_if (b := decide (r.1 = z)) (et_is (et_test (ev_op (ev_var rfl) (ev_var rfl) (rv_eq rfl))) (decide_eq_decide.mpr (by rw [V.str.injEq]))) (fun hb => ?_) fun hb => ?_
      · rw [if_pos (of_decide_eq_true hb)]
        exact ev_add (ev_var rfl) (ev_var rfl)
      · rw [if_neg (of_decide_eq_false hb)]
        exact ev_var rfl
    refine (gv_tup3 (ev_var rfl) key (ev_var rfl)).imp fun v H3 e3 ⟨p2, hv, hp2⟩ => ⟨p2, hv, q', ?_, ?_⟩
    · rw [er]
      exact hp2
    · rw [er]
      exact hpay.tx (TX.of (e1.trans e3))
theorem ok__law_held (F : Fun K "_law_held" "_law_held" s__law_held f fd) (T : Tx K mg aK tk) : FnOk P w K mg base CX0 1 f fd ["queues", "told"] spHeldL := by
  refine F.ok sc__law_held (fun vs H Q E h => ?_) (fun cdv A outer s H vs Q E hr h => ?_)
  · obtain ⟨a, t, qs, ff, rfl, _⟩ := h
    rfl
  · obtain ⟨a, t, qs, ff, rfl, hq, W, ht, hw, k⟩ := h
    have hu := hu_of hr
    refine ⟨_, (pss_cons (ps_set (i := 2) sc__law_held.nd rfl (Or.inl rfl) (pe_callTy (crDictL (K := K) rfl rfl) (by rfl) T.dict (by decide +kernel) (pa_cons (pe_lc (own := [("house", 3)]) rfl sc__law_held.nd (piTup (K := K) rfl (pe_ix (ixT (K := K) rfl) (pv 0) pe_int (fun _ _ => rfl))) (blkOk_by (own := [("house", 3)]) (N := N__law_held) (sc := defScope s__law_held) (by decide +kernel)) (fun _ _ _ _ _ => (pg_name (i := 3) sc__law_held.nd rfl (Or.inl rfl))) (fun _ _ _ _ _ => pts_nil) (fun _ _ _ _ _ => (pe_tup (pa_cons (pe_ix (ixT (K := K) rfl) (pv 3) pe_int (fun _ _ => rfl)) (pa_cons (pe_ix (ixT (K := K) rfl) (pv 3) pe_int (fun _ _ => rfl)) pa_nil))))) pa_nil)))
      (pss_cons (ps_for PassesOwn.never rfl (piTup (K := K) rfl (pe_ix (ixT (K := K) rfl) (pv 0) pe_int (fun _ _ => rfl))) (pgTup (K := K) (n := 3) rfl rfl (pgs_cons (pg_name (i := 4) sc__law_held.nd rfl (Or.inl rfl)) (pgs_cons (pg_name (i := 5) sc__law_held.nd rfl (Or.inl rfl)) (pgs_cons (pg_name (i := 6) sc__law_held.nd rfl (Or.inl rfl)) pgs_nil))))
        (pss_one (ps_for PassesOwn.never rfl (piTup (K := K) rfl (pe_slice (slA (K := K) rfl) (pv 6) po_none (po_some (pe_dget hu (pv 1) (pv 4) (fun _ _ => rfl))))) (pgTup (K := K) (n := 2) rfl rfl (pgs_cons (pg_name (i := 7) sc__law_held.nd rfl (Or.inl rfl)) (pgs_cons (pg_name (i := 8) sc__law_held.nd rfl (Or.inl rfl)) pgs_nil)))
        (pss_cons (ps_dput hu (pv 2) (pv 4) (pe_op op_sub (pe_dget hu (pv 2) (pv 4) (fun _ _ => rfl)) (pv 8)) rfl)
      (pss_one (ps_dput hu (pv 2) (pv 7) (pe_op op_add (pe_dget hu (pv 2) (pv 7) (fun _ _ => rfl)) (pv 8)) rfl))))))
      (pss_one (ps_ret (pv 2))))), ?_⟩
    obtain ⟨hb0, ha, ps, hb, hpr⟩ := id hq
    have hlen : (ps.map V.ref).length = qs.length := by rw [List.length_map, paired_len hpr]
    have l40 := W.l40
    have nd := W.nd
    have ecash : dI qs (fun r => r.2.1) = dI qs (held qs (cashF qs) (upto qs 0 ff)) := dI_congr fun r hr => by
      rw [upto_none, held_zero, cashF_at nd hr]
    refine q_asgD (ed_rows (K := K) (j := 3) (fun r => r.2.1) nd l40 (ev_houses (K := K) (ev_var (i := 0) rfl) ha) hb hpr (by show 3 < 9; omega) (fun _ => rfl) fun p r q ps' H1 e1 hr hp hq hpr' => ev_op (ev_var rfl) ev_c (rv_ixT (st_of (e1 _ _ hp)) (at_of (j := 1) rfl rfl))) fun d H1 hd0 e1 hd => ?_
    rw [ecash] at hd
    refine q_forT (K := K) (a := hb0) (xs := ps.map V.ref) (σ := [some (.ref a), some (.ref t), some (.ref d), none, none, none, none, none, none]) (ev_houses (K := K) (ev_var rfl) (e1 _ _ ha)) (st_of (e1 _ _ hb))
      (fun i σ' H' => ∃ y4 y5 y6 y7 y8, σ' = [some (.ref a), some (.ref t), some (.ref d), none, y4, y5, y6, y7, y8] ∧ Ex H H' ∧ H' d = some (.dK (dI qs (held qs (cashF qs) (upto qs i ff)))))
      (fun H2 e2 => ⟨none, none, none, none, none, rfl, e1.trans e2, e2 _ _ hd⟩) (fun i σ' H' _ hP => ?_) (fun i x σ' H' hx hP => ?_) (fun σ' H' hP => ?_)
    · obtain ⟨_, _, _, _, _, _, e, _⟩ := hP
      exact st_of (e _ _ hb)
    · obtain ⟨y4, y5, y6, y7, y8, rfl, e, hd'⟩ := hP
      obtain ⟨p, r, rfl, _, hqr, q', hrow, ps', hp', hpr'⟩ := RowsH.at hpr hx
      have hrm := List.mem_of_getElem? hqr
      have hwl := hw r hrm
      have lps : (ps'.map V.ref).length = r.2.2.length := by rw [List.length_map, paired_len hpr']
      refine g_tup3 (i := 4) (j := 5) (l := 6) (e _ _ hrow) ?_
      have sl := eq_slA (K := K) (σ := [some (.ref a), some (.ref t), some (.ref d), none, some (.str r.1), some (.int r.2.1), some (.ref q'), y7, y8]) (H := H') (te := tVar 6) (tb := tDGet (tVar 1) (tVar 4)) (n := ff r.1) (xs := ps'.map V.ref) (a := q')
        (ev_var rfl) (st_of (e _ _ hp')) (ev_dget (k := Sum.inr r.1) (ev_var rfl) (ev_var rfl) (e _ _ ht) (dI_at nd hrm))
      refine s_forX sl (fun pa j σ' H' => ∃ y7 y8, σ' = [some (.ref a), some (.ref t), some (.ref d), none, some (.str r.1), some (.int r.2.1), some (.ref q'), y7, y8] ∧ SqT K H' pa ((ps'.map V.ref).take (ff r.1)) ∧ Ex H H' ∧ H' d = some (.dK (dI qs (held qs (cashF qs) (inrow r.1 j (upto qs i ff))))))
        (fun pa H3 e3 hpa => ⟨y7, y8, rfl, hpa, e.trans e3, by rw [upto_in nd hqr]; exact e3 _ _ hd'⟩) (fun pa j σ' H' hP => by obtain ⟨_, _, _, h, _⟩ := hP; exact h) (fun pa j x σ' H' hx hP => ?_) (fun pa σ' H' hP => ?_)
      · obtain ⟨z7, z8, rfl, hpa, e3, hd3⟩ := hP
        have hjt := hx
        rw [List.getElem?_take] at hjt
        split at hjt
        case isFalse => cases hjt
        rename_i hjf
        obtain ⟨px, xx, rfl, _, hxx, hxp⟩ := PayH.at hpr' hjt
        have hxm := W.mem r hrm xx (List.mem_of_getElem? hxx)
        obtain ⟨rj, hjm, ejn⟩ := List.mem_map.mp hxm
        have hgx : r.2.2[inrow r.1 j (upto qs i ff) r.1]? = some xx := by
          unfold inrow
          rw [if_pos rfl]
          exact hxx
        generalize hg : inrow r.1 j (upto qs i ff) = gg at hd3 hgx
        have hsz : ∀ g : Row Str → Int, (dI qs g).length < sizeLine := fun g => by
          rw [dI_len]
          exact small1000 (by omega)
        refine g_tup2 (i := 7) (j := 8) (e3 _ _ hxp) ?_
        refine q_dput (a := d) (k := Sum.inr r.1) (v := .int (held qs (cashF qs) gg r - xx.2)) (σ := [some (.ref a), some (.ref t), some (.ref d), none, some (.str r.1), some (.int r.2.1), some (.ref q'), some (.str xx.1), some (.int xx.2)])
          (ev_sub (ev_dget (k := Sum.inr r.1) (ev_var rfl) (ev_var rfl) hd3 (dI_at nd hrm)) (ev_var rfl)) (ev_var rfl) (ev_var rfl) fun H4 e4 => ⟨_, e4 _ _ hd3, hsz _, ?_⟩
        rw [dI_put (g' := fun q => held qs (cashF qs) gg q - if q.1 = r.1 then xx.2 else 0) nd hrm (by rw [if_pos rfl]) fun q _ hq => by rw [if_neg hq, Int.sub_zero]]
        have hd4 : (upd H4 d (.dK (dI qs fun q => held qs (cashF qs) gg q - if q.1 = r.1 then xx.2 else 0))) d = some (.dK (dI qs fun q => held qs (cashF qs) gg q - if q.1 = r.1 then xx.2 else 0)) := upd_same
        have e5 : Ex H (upd H4 d (.dK (dI qs fun q => held qs (cashF qs) gg q - if q.1 = r.1 then xx.2 else 0))) := Ex.mut (e3.trans e4) hd0
        have hpa4 : SqT K (upd H4 d (.dK (dI qs fun q => held qs (cashF qs) gg q - if q.1 = r.1 then xx.2 else 0))) pa ((ps'.map V.ref).take (ff r.1)) := st_updD (ex_t e4 hpa) (e4 _ _ hd3)
        generalize upd H4 d (.dK (dI qs fun q => held qs (cashF qs) gg q - if q.1 = r.1 then xx.2 else 0)) = H5 at hd4 e5 hpa4
        have hv2 : valV (dI qs fun q => held qs (cashF qs) gg q - if q.1 = r.1 then xx.2 else 0) (Sum.inr xx.1) = some (.int (held qs (cashF qs) gg rj - if rj.1 = r.1 then xx.2 else 0)) := by
          rw [← ejn]
          exact dI_at nd hjm
        refine s_dput (a := d) (k := Sum.inr xx.1) (v := .int ((held qs (cashF qs) gg rj - if rj.1 = r.1 then xx.2 else 0) + xx.2)) (σ := [some (.ref a), some (.ref t), some (.ref d), none, some (.str r.1), some (.int r.2.1), some (.ref q'), some (.str xx.1), some (.int xx.2)])
          (ev_add (ev_dget (k := Sum.inr xx.1) (ev_var rfl) (ev_var rfl) hd4 hv2) (ev_var rfl)) (ev_var rfl) (ev_var rfl) fun H6 e6 => ⟨_, e6 _ _ hd4, hsz _, ?_⟩
        have ep : putK (dI qs fun q => held qs (cashF qs) gg q - if q.1 = r.1 then xx.2 else 0) (Sum.inr xx.1) (.int ((held qs (cashF qs) gg rj - if rj.1 = r.1 then xx.2 else 0) + xx.2)) = dI qs (held qs (cashF qs) (bump gg r.1)) := by
          rw [← ejn]
          refine dI_put nd hjm ?_ fun q hq hn => ?_
          · rw [KQ.held_bump nd hrm hjm hgx, if_pos ejn.symm]
          · rw [KQ.held_bump nd hrm hq hgx, if_neg (c := xx.1 = q.1) (fun z => hn (by rw [ejn]; exact z.symm)), Int.add_zero]
        rw [ep, ← hg, inrow_bump]
        exact ⟨_, _, rfl, st_updD (ex_t e6 hpa4) (e6 _ _ hd4), Ex.mut (e5.trans e6) hd0, upd_same⟩
      · obtain ⟨z7, z8, rfl, hpa, e3, hd3⟩ := hP
        have hmin : ((ps'.map V.ref).take (ff r.1)).length = ff r.1 := by
          rw [List.length_take, lps]
          omega
        rw [hmin, upto_out hqr] at hd3
        exact ⟨_, _, _, _, _, rfl, e3, hd3⟩
    · obtain ⟨y4, y5, y6, y7, y8, rfl, e, hd'⟩ := hP
      have eall : dI qs (held qs (cashF qs) (upto qs (ps.map V.ref).length ff)) = dI qs (held qs (cashF qs) ff) := dI_congr fun r hr => by
        rw [hlen]
        have e : ∀ r ∈ qs, upto qs qs.length ff r.1 = ff r.1 := fun r hr => by
          unfold upto
          rw [if_pos]
          rw [List.take_of_length_le (by rw [List.length_map]; exact Nat.le_refl _)]
          exact List.mem_map.mpr ⟨r, hr, rfl⟩
        unfold KQ.held
        rw [e r hr, KQ.got_congr e]
      rw [eall] at hd'
      exact s_ret (ev_var (i := 2) rfl) fun H2 e2 => k d H2 hd0 (e.trans e2) (e2 _ _ hd')
end
end NQ
namespace NQ
open PySem PySem.Spec PyProof.Rows L2 Evl
open KQ (Row held bump drop bump_same bump_ne drop_same drop_ne)
theorem WellQ.total {qs : List (Row Str)} (g : WellQ qs) {f : Str → Nat} (w : KQ.Within qs f) : total qs f ≤ 2400 := by
  have h1 := total_le (qs := qs) (f := f) fun r hr => Nat.le_trans (w r hr) (g.len r hr)
  have h2 := g.l40
  omega
section
variable {K : PySem.W.Frag} {σ : L2.St} {H H' : Hp} {ta tb te td ty tl : TE} {t u tt : TT} {x y z v : V} {tr : TA} {D : Ends} {tz tu : TS}
/-- a comprehension with a test over what J gives, once J stands: items known -/
theorem lc_F {J : It} {G : Hp → Prop} {Y : Nat → Hp → V → Hp → Prop} {n : Nat} {g : TG} {vs : List Nat} (W : Walk J n G Y) (hG : ∀ H3, Ex H H3 → G H3) (hn : n ≤ 40000) (f : Nat → Bool) (w : Nat → V)
    (hb : ∀ i x H1 H2, Ex H H1 → i < n → Y i H1 x H2 → Ex H1 H2 ∧ ∃ σ2, (∀ R : L2.St → Hp → Prop, R σ2 H2 → g x (wipe σ vs) H2 R) ∧ wipe σ2 vs = wipe σ vs ∧ EvT tt σ2 H2 (f i) ∧ (f i = true → Ev te σ2 H2 (w i)))
    {Q : Addr → Hp → Prop} (q : ∀ p H2, H p = none → Ex H H2 → H2 p = some (.lst ((idxs n f).map w)) → Q p H2) :
    ∀ Dl, H Dl = none → ∃ W : Nat → Nat → Hp → Prop, (∃ m, W 0 m (L2.upd H Dl (.lst []))) ∧ ∀ i m H, W i m H →
      (J.stop i H ∧ Q Dl H) ∨ (J.go i H ∧ ∃ Nx : Hp → Prop, (∀ H', Nx H' → ∃ m', m' < m ∧ W (i + 1) m' H') ∧ ∀ x H', J.yld i H x H' → g x (wipe σ vs) H' fun σ2 H2 => wipe σ2 vs = wipe σ vs ∧ tt σ2 H2 fun b H3 =>
        if b = true then te σ2 H3 fun y H4 => ∃ acc, H4 Dl = some (.lst acc) ∧ acc.length < sizeLine ∧ Nx (L2.upd H4 Dl (.lst (acc ++ [y]))) else Nx H3) := fun Dl hD => by
  refine lc_it W (fun i H' => Ex H H' ∧ H' Dl = some (.lst ((idxs i f).map w))) ⟨Ex.new hD, upd_same⟩ (fun i H' _ p => hG H' p.1) (fun i x H' H2 hi p hy => ?_) fun H' p => q Dl H' hD p.1 p.2
  obtain ⟨p2, p3⟩ := p
  obtain ⟨e2, σ2, b2, b1, b3, b4⟩ := hb i x H' H2 p2 hi hy
  refine b2 _ ⟨b1, b3 H2 (Ex.refl H2) _ fun H3 e3 => ?_⟩
  have hl : ((idxs i f).map w).length ≤ i := by
    rw [List.length_map]
    have := List.length_filter_le f (List.range i)
    rw [List.length_range] at this
    exact this
  cases hf : f i with
  | true =>
    rw [if_pos rfl]
    refine b4 hf H3 e3 _ fun H4 e4 => ?_
    have e24 := (e2.trans e3).trans e4
    refine ⟨_, e24 _ _ p3, sz_lt (by omega), Ex.mut (p2.trans e24) hD, ?_⟩
    rw [upd_same, idxs_yes hf, List.map_append]
    rfl
  | false =>
    rw [if_neg (by decide)]
    refine ⟨p2.trans (e2.trans e3), ?_⟩
    rw [idxs_no hf]
    exact (e2.trans e3) _ _ p3
/-- x = [e for k in d if c], d a dict at a name -/
theorem q_lockLc {kvs : List (Key × V)} {d : Addr} {i j m : Nat} {vs : List Nat} (hv : σ[m]? = some (some (.ref d))) (hd : H d = some (.dK kvs)) (hn : kvs.length ≤ 40000) (f : Nat → Bool) (w : Nat → V) (hw : ∀ x, wipe ((wipe σ vs).set j (some x)) vs = wipe σ vs)
    (hb : ∀ (i : Nat) k v H1, (∀ b o, b ≠ d → H b = some o → H1 b = some o) → kvs[i]? = some (k, v) → EvT tt ((wipe σ vs).set j (some (kV k))) H1 (f i) ∧ (f i = true → Ev te ((wipe σ vs).set j (some (kV k))) H1 (w i)))
    (k : ∀ p H1, H p = none → Ex H H1 → H1 p = some (.lst ((idxs kvs.length f).map w)) → tz D (σ.set i (some (.ref p))) H1) :
    tSeq (tLock (tAsg (tLc (iKeys (tVar m)) (gName j) tt te vs) (gName i))) tz D σ H := by
  refine ⟨d, .dK kvs, hd, trivial, fun od => ?_⟩
  have hL : (L2.upd H d (.frz od (.dK kvs))) d = some (.frz od (.dK kvs)) := upd_same
  have nb : ∀ b o, b ≠ d → H b = some o → (L2.upd H d (.frz od (.dK kvs))) b = some o := fun b o n h => by
    rw [upd_ne n]
    exact h
  have back : ∀ b, (L2.upd H d (.frz od (.dK kvs))) b = none → H b = none := fun b h => by
    by_cases e : b = d
    · rw [e, hL] at h
      cases h
    · rw [upd_ne e] at h
      exact h
  generalize L2.upd H d (.frz od (.dK kvs)) = HL at hL nb back
  refine ⟨.ref d, hv, d, od, rfl, Or.inl ⟨kvs, hL, ?_⟩⟩
  refine lc_F (walk_keys (d := d) (o := od) (kvs := kvs)) (fun H3 e3 => e3 _ _ hL) hn f w (fun i x H1 H2 e1 hi hy => ?_) fun p H2 hp e2 hp2 => ?_
  · obtain ⟨rfl, k, v, hkv, rfl⟩ := hy
    obtain ⟨h1, h2⟩ := hb i k v H2 (fun b o n h => e1 _ _ (nb b o n h)) hkv
    exact ⟨Ex.refl _, _, fun R h => h, hw _, h1, h2⟩
  · have hd2 := e2 _ _ hL
    refine ⟨hd2, k p _ (back p hp) (fun b o h => ?_) ?_⟩
    · by_cases e : b = d
      · rw [e, upd_same, ← hd, e.symm, h]
      · rw [upd_ne e]
        exact e2 _ _ (nb b o e h)
    · rw [upd_ne fun z => by rw [z, hL] at hp; cases hp]
      exact hp2
end
abbrev ixS' (qs : List (Row Str)) (is : List Nat) : List V := is.map fun i => V.str (qs.getD i rowD).1
theorem ixS_strs (qs : List (Row Str)) (is : List Nat) : ixS' qs is = (is.map fun i => (qs.getD i rowD).1).map V.str := by
  unfold ixS'
  rw [List.map_map]
  rfl
theorem ixS_nil {K : PySem.W.Frag} {σ : L2.St} {H : Hp} {ta : TE} {p : Addr} {qs : List (Row Str)} {is : List Nat} (W : WellQ qs) (hi : ∀ i ∈ is, i < qs.length) (ha : Ev ta σ H (.ref p)) (hp : H p = some (.lst (ixS' qs is))) : Ev (tOp (rEqD K) ta (tLst tNil)) σ H (.bl is.isEmpty) := by
  have h := ev_eqNil (K := K) (σ := σ) (H := H) (ta := ta) (xs := ixS' qs is) (ds := (is.map fun i => (qs.getD i rowD).1).map PyData.str) ha hp (by rw [ixS_strs]; exact dp_strs _ _) (fun H1 _ => by rw [ixS_strs]; exact dp_strs _ _) (shaped_strs fun z hz => by
    obtain ⟨i, him, rfl⟩ := List.mem_map.mp hz
    obtain ⟨r, hr⟩ := get_of (l := qs) (i := i) rfl (hi i him)
    rw [getD_of hr]
    exact W.ok r (List.mem_of_getElem? hr))
  rw [show (ixS' qs is).isEmpty = is.isEmpty by cases is <;> rfl] at h
  exact h
def negIx (qs : List (Row Str)) (c : Str → Int) (f : Str → Nat) : List Nat := idxs qs.length fun i => decide (held qs c f (qs.getD i rowD) < 0)
theorem idxs_lt {n : Nat} {f : Nat → Bool} : ∀ i ∈ idxs n f, i < n := fun i h => List.mem_range.mp (List.mem_filter.mp h).1
theorem negIx_none {qs : List (Row Str)} {c : Str → Int} {f : Str → Nat} (h : negIx qs c f = []) : KQ.Feas qs c f := fun r hr => by
  obtain ⟨i, hi, e⟩ := List.mem_iff_getElem.mp hr
  have hq : qs[i]? = some r := by rw [List.getElem?_eq_getElem hi, e]
  rcases Int.lt_or_le (held qs c f r) 0 with h1 | h1
  · have : i ∈ negIx qs c f := List.mem_filter.mpr ⟨List.mem_range.mpr hi, by rw [getD_of hq]; exact decide_eq_true h1⟩
    rw [h] at this
    cases this
  · exact h1
def spRunL : Sp := fun vs H Q _ => ∃ a qs, vs = [.ref a] ∧ QH H a qs ∧ WellQ qs ∧ ∀ d f H', H d = none → Ex H H' → KQ.Least qs (cashF qs) f → H' d = some (.dK (tolK qs f)) → Q (.ref d) H'
def spBackL : Sp := fun vs H Q _ => ∃ a qs, vs = [.ref a] ∧ QH H a qs ∧ WellQ qs ∧ (∀ r ∈ qs, 0 ≤ r.2.1) ∧ ∀ d f H', H d = none → Ex H H' → KQ.Great qs (cashF qs) f → H' d = some (.dK (tolK qs f)) → Q (.ref d) H'
theorem ed_heldL {σ : L2.St} {H : Hp} {tr : TA} {a t : Addr} {qs : List (Row Str)} {f : Str → Nat} (h : EvA tr σ H [.ref a, .ref t]) (hq : QH H a qs) (W : WellQ qs) (ht : H t = some (.dK (tolK qs f))) (hw : KQ.Within qs f) : EvD (tCall spHeldL [] E0 tr) σ H (dI qs (held qs (cashF qs) f)) := fun H1 e Q q => by
  refine h H1 e _ fun H2 e2 => ?_
  rw [List.append_nil]
  exact ⟨a, t, qs, f, rfl, hq.tx (TX.of (e.trans e2)), W, (e.trans e2) _ _ ht, hw, fun d H' hd e3 hd' => q d H' (fresh_back e2 hd) (e2.trans e3) hd'⟩
theorem idxs_head {n : Nat} {f : Nat → Bool} {i : Nat} {l : List Nat} (h : idxs n f = i :: l) : i < n ∧ f i = true := by
  have hm : i ∈ idxs n f := by rw [h]; exact List.mem_cons_self
  have := List.mem_filter.mp hm
  exact ⟨List.mem_range.mp this.1, this.2⟩
section
variable {P : Program} {w : World} {K : PySem.W.Frag} {mg : Str → Option Value} {base : Heap} {f : Addr} {fd : FuncData} {aK : Addr} {tk : Tk}
theorem ok__law_run_out (F : Fun K "_law_run_out" "_law_run_out" s__law_run_out f fd) (T : Tx K mg aK tk) (c__law_held : Cal P w K mg base CX0 1 "_law_held" ["queues", "told"] spHeldL) : FnOk P w K mg base CX0 2 f fd ["queues"] spRunL := by
  refine F.ok sc__law_run_out (fun vs H Q E h => ?_) (fun cdv A outer s H vs Q E hr h => ?_)
  · obtain ⟨a, qs, rfl, _⟩ := h
    rfl
  · obtain ⟨a, qs, rfl, hq, W, k⟩ := h
    have hu := hu_of hr
    refine ⟨_, (pss_cons (ps_set (i := 1) sc__law_run_out.nd rfl (Or.inr rfl) (pe_callTy (crDictL (K := K) rfl rfl) (by rfl) T.dict (by decide +kernel) (pa_cons (pe_lc (own := [("house", 2)]) rfl sc__law_run_out.nd (piTup (K := K) rfl (pe_ix (ixT (K := K) rfl) (pv 0) pe_int (fun _ _ => rfl))) (blkOk_by (own := [("house", 2)]) (N := N__law_run_out) (sc := defScope s__law_run_out) (by decide +kernel)) (fun _ _ _ _ _ => (pg_name (i := 2) sc__law_run_out.nd rfl (Or.inl rfl))) (fun _ _ _ _ _ => pts_nil) (fun _ _ _ _ _ => (pe_tup (pa_cons (pe_ix (ixT (K := K) rfl) (pv 2) pe_int (fun _ _ => rfl)) (pa_cons pe_int pa_nil))))) pa_nil)))
      (pss_cons (ps_for PassesOwn.never rfl (pi_range1 (by rfl) T.range (pa_cons pe_int pa_nil)) (pg_name (i := 3) sc__law_run_out.nd rfl (Or.inl rfl))
        (pss_cons (ps_set (i := 4) sc__law_run_out.nd rfl (Or.inr rfl) (pe_cl c__law_held hr (by decide) (by rfl) (pa_cons (pv 0) (pa_cons (pv 1) pa_nil))))
      (pss_cons (ps_setLc (i := 5) (own := [("name", 6), ("cash", 7), ("payments", 8)]) rfl sc__law_run_out.nd rfl rfl (sw_true rfl rfl rfl (by decide +kernel)) (piTup (K := K) rfl (pe_ix (ixT (K := K) rfl) (pv 0) pe_int (fun _ _ => rfl))) (blkOk_by (own := [("name", 6), ("cash", 7), ("payments", 8)]) (N := N__law_run_out) (sc := defScope s__law_run_out) (by decide +kernel)) (fun _ _ _ _ _ => (pgTup (K := K) (n := 3) rfl rfl (pgs_cons (pg_name (i := 6) sc__law_run_out.nd rfl (Or.inl rfl)) (pgs_cons (pg_name (i := 7) sc__law_run_out.nd rfl (Or.inl rfl)) (pgs_cons (pg_name (i := 8) sc__law_run_out.nd rfl (Or.inl rfl)) pgs_nil))))) (fun _ _ _ _ _ => pts_one (PW.pt (pw_and (pt_cmpR op_lt (pe_dget hu (pv 1) (pv 6) (fun _ _ => rfl)) (pe_callB (crLen (K := K) rfl) (by rfl) T.len (by decide +kernel) (pa_cons (pv 8) pa_nil)) (nomark _)) (pw_and1 (pt_cmpR op_le (pe_ix (ixT (K := K) rfl) (pe_ix (ixT (K := K) rfl) (pv 8) (pe_dget hu (pv 1) (pv 6) (fun _ _ => rfl)) (fun _ _ => rfl)) pe_int (fun _ _ => rfl)) (pe_dget hu (pv 4) (pv 6) (fun _ _ => rfl)) (nomark _)))))) (fun _ _ _ _ _ => (pv 6)))
      (pss_cons (ps_if (pt_cmpR (opEqD (K := K) rfl hr.units) (pv 5) (pe_lst pa_nil) (nomark _))
        (pss_one ps_break)
        pss_nil)
      (pss_one (ps_dput hu (pv 1) (pe_ix (ixL (K := K) rfl) (pv 5) pe_int (fun _ _ => rfl)) (pe_op op_add (pe_dget hu (pv 1) (pe_ix (ixL (K := K) rfl) (pv 5) pe_int (fun _ _ => rfl)) (fun _ _ => rfl)) pe_int) rfl))))))
      (pss_one (ps_ret (pv 1))))), ?_⟩
    obtain ⟨hb0, ha, ps, hb, hpr⟩ := id hq
    have hlen : (ps.map V.ref).length = qs.length := by rw [List.length_map, paired_len hpr]
    have l40 := W.l40
    have nd := W.nd
    refine q_asgD (ed_rows (K := K) (j := 2) (fun _ => 0) nd l40 (ev_houses (K := K) (ev_var (i := 0) rfl) ha) hb hpr (by show 2 < 9; omega) (fun _ => rfl) fun p r q ps' H1 e1 hr hp hq hpr' => ev_c) fun t H1 ht0 e1 ht => ?_
    have ht' : H1 t = some (.dK (tolK qs fun _ => 0)) := ht
    refine q_forR1 (n := 2500) (σ := [some (.ref a), some (.ref t), none, none, none, none, none, none, none]) (ea_cons (ev_c (v := .int 2500)) ea_nil) (by omega)
      (fun i σ' H' => ∃ (ff : Str → Nat) (y3 y4 y5 y6 y7 y8 : Option V), σ' = [some (.ref a), some (.ref t), none, y3, y4, y5, y6, y7, y8] ∧ Ex H H' ∧ H' t = some (.dK (tolK qs ff)) ∧ KQ.Below qs (cashF qs) ff ∧ total qs ff = i)
      (fun H2 e2 => ⟨_, none, none, none, none, none, none, rfl, e1.trans e2, e2 _ _ ht', KQ.below_zero _ _, ?_⟩) (fun i σ' H' hi hP => ?_) (fun σ' H' hP => ?_)
    · unfold total
      exact (by
        have : ∀ l : List (Row Str), (l.map fun _ => 0).sum = 0 := fun l => by
          induction l with
          | nil => rfl
          | cons x r ih => rw [List.map_cons, List.sum_cons, ih]
        exact this qs)
    · obtain ⟨ff, y3, y4, y5, y6, y7, y8, rfl, eH, htt, be, htot⟩ := hP
      -- held
      refine q_asgD (σ := [some (.ref a), some (.ref t), none, some (.int (i : Int)), y4, y5, y6, y7, y8]) (ed_heldL (ea_cons (ev_var rfl) (ea_cons (ev_var rfl) ea_nil)) (hq.tx (TX.of eH)) W htt be.1) fun hd H2 hd0 e2 hhd => ?_
      have eH2 := eH.trans e2
      -- some
      have wk := el_lcV (te := tVar 6) (g := gTup K 3 (gCons (gName 6) (gCons (gName 7) (gCons (gName 8) gNil)))) (vs := [6, 7, 8]) (σ := [some (.ref a), some (.ref t), none, some (.int (i : Int)), some (.ref hd), y5, y6, y7, y8]) (H := H2)
        (tt := tAnd (tTest (tOp (rI0 fun i j => .bl (decide (i < j))) (tDGet (tVar 1) (tVar 6)) (tCB (rLenS K) (tCons (tVar 8) tNil)))) (tTest (tOp (rI0 fun i j => .bl (decide (i ≤ j))) (tOp (rIxT K) (tOp (rIxT K) (tVar 8) (tDGet (tVar 1) (tVar 6))) (tC (.int 1))) (tDGet (tVar 4) (tVar 6)))))
        (fun i => V.str (qs.getD i rowD).1) (fun i => canPay qs (cashF qs) ff (qs.getD i rowD)) (ei_tup (K := K) (eq_ev (ev_houses (K := K) (ev_var (i := 0) rfl) (eH2 _ _ ha)) (st_of (eH2 _ _ hb)))) (by rw [hlen]; omega)
        fun i x H5 H6 e5 hi hy => by
          obtain ⟨rfl, hx⟩ := hy
          obtain ⟨p, r, rfl, _, hqr, q', hrow, ps', hp', hpr'⟩ := RowsH.at hpr hx
          have hrm := List.mem_of_getElem? hqr
          have eH6 := eH2.trans e5
          refine ⟨Ex.refl _, _, fun R h => g_tup3 (i := 6) (j := 7) (l := 8) (eH6 _ _ hrow) h, rfl, ?_, fun _ => ?_⟩
          · rw [getD_of hqr]
            have est : ∀ {H7 : Hp}, Ex H6 H7 → Ev (tDGet (tVar 1) (tVar 6)) [some (.ref a), some (.ref t), none, some (.int (i : Int)), some (.ref hd), y5, some (.str r.1), some (.int r.2.1), some (.ref q')] H7 (.int (ff r.1 : Nat)) := fun e => ev_dget (k := Sum.inr r.1) (ev_var rfl) (ev_var rfl) (((e2.trans e5).trans e) _ _ htt) (dI_at nd hrm)
            refine et_is (et_and (et_test (ev_ltV (est (Ex.refl _)) (ev_lenT (ev_var rfl) (st_of (eH6 _ _ hp'))))) (b := canPay qs (cashF qs) ff r) fun hlt => ?_) ?_
            · rw [List.length_map, paired_len hpr', decide_eq_true_eq] at hlt
              obtain ⟨x, hx2⟩ := get_of (l := r.2.2) (i := ff r.1) rfl (by omega)
              obtain ⟨px, hpx⟩ := get_of (l := ps') (i := ff r.1) (paired_len hpr') (by omega)
              have hxp : H px = some (.tup [.str x.1, .int x.2]) := paired_at hpr' hpx hx2
              refine et_is (et_test (ev_leV (i := x.2) (j := held qs (cashF qs) ff r) (ev_op (ev_op (ev_var rfl) (est (Ex.refl _)) (rv_ixT (st_of (eH6 _ _ hp')) (at_of (j := ff r.1) rfl (by rw [List.getElem?_map, hpx]; rfl)))) ev_c (rv_ixT (st_of (eH6 _ _ hxp)) (at_of (j := 1) rfl rfl))) (ev_dget (k := Sum.inr r.1) (ev_var rfl) (ev_var rfl) (e5 _ _ hhd) (dI_at nd hrm)))) ?_
              unfold canPay
              rw [hx2]
            · rw [List.length_map, paired_len hpr']
              unfold canPay
              cases hx2 : r.2.2[ff r.1]? with
              | none => simp
              | some x =>
                have := (List.getElem?_eq_some_iff.mp hx2).1
                rw [decide_eq_true (by omega), Bool.true_and]
          · rw [getD_of hqr]
            exact ev_var rfl
      rw [hlen] at wk
      refine q_asgL (σ := [some (.ref a), some (.ref t), none, some (.int (i : Int)), some (.ref hd), y5, y6, y7, y8]) wk fun sm H3 hsm0 e3 hsm => ?_
      have hsm' : H3 sm = some (.lst (ixS' qs (payIx qs (cashF qs) ff))) := hsm
      -- if some == []
      have eH3 := eH2.trans e3
      refine q_when (σ := [some (.ref a), some (.ref t), none, some (.int (i : Int)), some (.ref hd), some (.ref sm), y6, y7, y8]) (b := (payIx qs (cashF qs) ff).isEmpty) (et_test (ixS_nil (K := K) W idxs_lt (ev_var (i := 5) rfl) hsm')) (fun hbe H4 e4 => ?_) fun hbe H4 e4 => ?_
      · have hnil : payIx qs (cashF qs) ff = [] := List.isEmpty_iff.mp hbe
        have e24 := (e2.trans e3).trans e4
        exact s_ret (ev_var (i := 1) rfl) fun H5 e5 => k t ff H5 ht0 (eH.trans (e24.trans e5)) ⟨be, payIx_none hnil⟩ ((e24.trans e5) _ _ htt)
      · cases hpi : payIx qs (cashF qs) ff with
        | nil =>
          rw [hpi] at hbe
          cases hbe
        | cons i0 l0 =>
          obtain ⟨r, hqr, hcan⟩ := payIx_at (k := 0) (by rw [hpi]; rfl)
          obtain ⟨x, hx, hpay⟩ := canPay_at hcan
          have hrm := List.mem_of_getElem? hqr
          rw [hpi] at hsm'
          have hs0 : Ev (tOp (rIxL K) (tVar 5) (tC (.int 0))) [some (.ref a), some (.ref t), none, some (.int (i : Int)), some (.ref hd), some (.ref sm), y6, y7, y8] H4 (.str r.1) := ev_op (ev_var rfl) ev_c (rv_ixL (sq_of (e4 _ _ hsm')) (at_of (j := 0) rfl (by show some (V.str (qs.getD i0 rowD).1) = _; rw [getD_of hqr])))
          have e24 := (e2.trans e3).trans e4
          refine s_dput (a := t) (k := Sum.inr r.1) (v := .int ((ff r.1 : Nat) + 1)) (ev_add (ev_dget (k := Sum.inr r.1) (ev_var rfl) hs0 (e24 _ _ htt) (dI_at nd hrm)) ev_c) (ev_var rfl) hs0 fun H5 e5 => ⟨_, (e24.trans e5) _ _ htt, by rw [dI_len]; exact small1000 (by omega), ?_⟩
          have ep : putK (tolK qs ff) (Sum.inr r.1) (.int ((ff r.1 : Nat) + 1)) = tolK qs (bump ff r.1) := dI_put nd hrm (by rw [bump_same]; rfl) fun q _ hq => by rw [bump_ne hq]
          rw [ep]
          refine ⟨bump ff r.1, _, _, _, _, _, _, rfl, Ex.mut (eH.trans (e24.trans e5)) ht0, upd_same, KQ.below_step W.good be hrm hx hpay, ?_⟩
          rw [total_bump nd hrm, htot]
    · obtain ⟨ff, y3, y4, y5, y6, y7, y8, rfl, eH, htt, be, htot⟩ := hP
      have := W.total be.1
      have e : (2500 : Int).toNat = 2500 := rfl
      omega
theorem ok__law_drawn_back (F : Fun K "_law_drawn_back" "_law_drawn_back" s__law_drawn_back f fd) (T : Tx K mg aK tk) (c__law_held : Cal P w K mg base CX0 1 "_law_held" ["queues", "told"] spHeldL) : FnOk P w K mg base CX0 2 f fd ["queues"] spBackL := by
  refine F.ok sc__law_drawn_back (fun vs H Q E h => ?_) (fun cdv A outer s H vs Q E hr h => ?_)
  · obtain ⟨a, qs, rfl, _⟩ := h
    rfl
  · obtain ⟨a, qs, rfl, hq, W, hc0, k⟩ := h
    have hu := hu_of hr
    refine ⟨_, (pss_cons (ps_set (i := 1) sc__law_drawn_back.nd rfl (Or.inl rfl) (pe_callTy (crDictL (K := K) rfl rfl) (by rfl) T.dict (by decide +kernel) (pa_cons (pe_lc (own := [("house", 2)]) rfl sc__law_drawn_back.nd (piTup (K := K) rfl (pe_ix (ixT (K := K) rfl) (pv 0) pe_int (fun _ _ => rfl))) (blkOk_by (own := [("house", 2)]) (N := N__law_drawn_back) (sc := defScope s__law_drawn_back) (by decide +kernel)) (fun _ _ _ _ _ => (pg_name (i := 2) sc__law_drawn_back.nd rfl (Or.inl rfl))) (fun _ _ _ _ _ => pts_nil) (fun _ _ _ _ _ => (pe_tup (pa_cons (pe_ix (ixT (K := K) rfl) (pv 2) pe_int (fun _ _ => rfl)) (pa_cons (pe_callB (crLen (K := K) rfl) (by rfl) T.len (by decide +kernel) (pa_cons (pe_ix (ixT (K := K) rfl) (pv 2) pe_int (fun _ _ => rfl)) pa_nil)) pa_nil))))) pa_nil)))
      (pss_cons (ps_for PassesOwn.never rfl (pi_range1 (by rfl) T.range (pa_cons pe_int pa_nil)) (pg_name (i := 3) sc__law_drawn_back.nd rfl (Or.inl rfl))
        (pss_cons (ps_set (i := 4) sc__law_drawn_back.nd rfl (Or.inr rfl) (pe_cl c__law_held hr (by decide) (by rfl) (pa_cons (pv 0) (pa_cons (pv 1) pa_nil))))
      (pss_cons (ps_lock (ps_setLc (i := 5) (own := [("name", 6)]) rfl sc__law_drawn_back.nd rfl rfl (sw_true rfl rfl rfl (by decide +kernel)) (pi_keys (pv 1)) (blkOk_by (own := [("name", 6)]) (N := N__law_drawn_back) (sc := defScope s__law_drawn_back) (by decide +kernel)) (fun _ _ _ _ _ => (pg_name (i := 6) sc__law_drawn_back.nd rfl (Or.inl rfl))) (fun _ _ _ _ _ => pts_one (pt_cmpR op_lt (pe_dget hu (pv 4) (pv 6) (fun _ _ => rfl)) pe_int (nomark _))) (fun _ _ _ _ _ => (pv 6))))
      (pss_cons (ps_if (pt_cmpR (opEqD (K := K) rfl hr.units) (pv 5) (pe_lst pa_nil) (nomark _))
        (pss_one ps_break)
        pss_nil)
      (pss_one (ps_dput hu (pv 1) (pe_ix (ixL (K := K) rfl) (pv 5) pe_int (fun _ _ => rfl)) (pe_op op_sub (pe_dget hu (pv 1) (pe_ix (ixL (K := K) rfl) (pv 5) pe_int (fun _ _ => rfl)) (fun _ _ => rfl)) pe_int) rfl))))))
      (pss_one (ps_ret (pv 1))))), ?_⟩
    obtain ⟨hb0, ha, ps, hb, hpr⟩ := id hq
    have hlen : (ps.map V.ref).length = qs.length := by rw [List.length_map, paired_len hpr]
    have l40 := W.l40
    have nd := W.nd
    refine q_asgD (ed_rows (K := K) (j := 2) (fun r => (r.2.2.length : Nat)) nd l40 (ev_houses (K := K) (ev_var (i := 0) rfl) ha) hb hpr (by show 2 < 7; omega) (fun _ => rfl) fun p r q ps' H1 e1 hr hp hq hpr' => ev_is (ev_lenT (K := K) (ev_op (ev_var rfl) ev_c (rv_ixT (K := K) (st_of (e1 _ _ hp)) (at_of (j := 2) rfl rfl))) (st_of (e1 _ _ hq))) (by rw [List.length_map, paired_len hpr'])) fun t H1 ht0 e1 ht => ?_
    have hfull : ∀ r ∈ qs, KQ.lenOf qs r.1 = r.2.2.length := fun r hr => KQ.lenOf_at nd hr
    have ht' : H1 t = some (.dK (tolK qs (KQ.lenOf qs))) := by
      rw [ht]
      congr 2
      exact dI_congr fun r hr => by rw [hfull r hr]
    have ab0 : KQ.Above qs (cashF qs) (KQ.lenOf qs) := KQ.above_all _ _ hfull
    have tot0 := W.total ab0.1
    refine q_forR1 (n := 2500) (σ := [some (.ref a), some (.ref t), none, none, none, none, none]) (ea_cons (ev_c (v := .int 2500)) ea_nil) (by omega)
      (fun i σ' H' => ∃ (ff : Str → Nat) (y3 y4 y5 y6 : Option V), σ' = [some (.ref a), some (.ref t), none, y3, y4, y5, y6] ∧ Ex H H' ∧ H' t = some (.dK (tolK qs ff)) ∧ KQ.Above qs (cashF qs) ff ∧ total qs ff + i = total qs (KQ.lenOf qs))
      (fun H2 e2 => ⟨_, none, none, none, none, rfl, e1.trans e2, e2 _ _ ht', ab0, rfl⟩) (fun i σ' H' hi hP => ?_) (fun σ' H' hP => ?_)
    · obtain ⟨ff, y3, y4, y5, y6, rfl, eH, htt, ab, htot⟩ := hP
      -- held
      refine q_asgD (σ := [some (.ref a), some (.ref t), none, some (.int (i : Int)), y4, y5, y6]) (ed_heldL (ea_cons (ev_var rfl) (ea_cons (ev_var rfl) ea_nil)) (hq.tx (TX.of eH)) W htt ab.1) fun hd H2 hd0 e2 hhd => ?_
      have eH2 := eH.trans e2
      have ntd : hd ≠ t := (ne_of_none htt hd0).symm
      have dl : (tolK qs ff).length = qs.length := dI_len
      -- some
      refine q_lockLc (σ := [some (.ref a), some (.ref t), none, some (.int (i : Int)), some (.ref hd), y5, y6]) (m := 1) (d := t) rfl (e2 _ _ htt) (by rw [dl]; omega) (fun i => decide (held qs (cashF qs) ff (qs.getD i rowD) < 0)) (fun i => V.str (qs.getD i rowD).1) (fun _ => rfl) (fun i kk v H3 e3 hkv => ?_) fun sm H3 hsm0 e3 hsm => ?_
      · obtain ⟨r, hqr, he⟩ := (by
          unfold tolK dI at hkv
          rw [List.getElem?_map] at hkv
          cases hqr : qs[i]? with
          | none =>
            rw [hqr] at hkv
            cases hkv
          | some r =>
            rw [hqr] at hkv
            exact ⟨r, rfl, (Option.some.inj hkv).symm⟩ : ∃ r, qs[i]? = some r ∧ (kk, v) = ((Sum.inr r.1 : Key), V.int (ff r.1 : Nat)))
        cases he
        have hrm := List.mem_of_getElem? hqr
        rw [getD_of hqr]
        exact ⟨et_test (ev_ltV (ev_dget (k := Sum.inr r.1) (ev_var (i := 4) rfl) (ev_var (i := 6) rfl) (e3 _ _ ntd hhd) (dI_at nd hrm)) ev_c), fun _ => ev_var (i := 6) rfl⟩
      rw [dl] at hsm
      have hsm' : H3 sm = some (.lst (ixS' qs (negIx qs (cashF qs) ff))) := hsm
      have eH3 := eH2.trans e3
      refine q_when (σ := [some (.ref a), some (.ref t), none, some (.int (i : Int)), some (.ref hd), some (.ref sm), y6]) (b := (negIx qs (cashF qs) ff).isEmpty) (et_test (ixS_nil (K := K) W idxs_lt (ev_var (i := 5) rfl) hsm')) (fun hbe H4 e4 => ?_) fun hbe H4 e4 => ?_
      · have hnil : negIx qs (cashF qs) ff = [] := List.isEmpty_iff.mp hbe
        have e24 := (e2.trans e3).trans e4
        exact s_ret (ev_var (i := 1) rfl) fun H5 e5 => k t ff H5 ht0 (eH.trans (e24.trans e5)) ⟨ab, negIx_none hnil⟩ ((e24.trans e5) _ _ htt)
      · cases hpi : negIx qs (cashF qs) ff with
        | nil =>
          rw [hpi] at hbe
          cases hbe
        | cons i0 l0 =>
          obtain ⟨hi0, hneg⟩ := idxs_head hpi
          obtain ⟨r, hqr⟩ := get_of (l := qs) (i := i0) rfl hi0
          rw [getD_of hqr] at hneg
          have hneg := of_decide_eq_true hneg
          have hrm := List.mem_of_getElem? hqr
          have h0 : ff r.1 ≠ 0 := KQ.above_pos W.good (by rw [cashF_at nd hrm]; exact hc0 r hrm) hneg
          rw [hpi] at hsm'
          have hs0 : Ev (tOp (rIxL K) (tVar 5) (tC (.int 0))) [some (.ref a), some (.ref t), none, some (.int (i : Int)), some (.ref hd), some (.ref sm), y6] H4 (.str r.1) := ev_op (ev_var rfl) ev_c (rv_ixL (sq_of (e4 _ _ hsm')) (at_of (j := 0) rfl (by show some (V.str (qs.getD i0 rowD).1) = _; rw [getD_of hqr])))
          have e24 := (e2.trans e3).trans e4
          refine s_dput (a := t) (k := Sum.inr r.1) (v := .int ((ff r.1 : Nat) - 1)) (ev_sub (ev_dget (k := Sum.inr r.1) (ev_var rfl) hs0 (e24 _ _ htt) (dI_at nd hrm)) ev_c) (ev_var rfl) hs0 fun H5 e5 => ⟨_, (e24.trans e5) _ _ htt, by rw [dI_len]; exact small1000 (by omega), ?_⟩
          have ep : putK (tolK qs ff) (Sum.inr r.1) (.int ((ff r.1 : Nat) - 1)) = tolK qs (drop ff r.1) := dI_put nd hrm (by rw [drop_same]; omega) fun q _ hq => by rw [drop_ne hq]
          rw [ep]
          have td := total_drop nd hrm h0
          refine ⟨drop ff r.1, _, _, _, _, rfl, Ex.mut (eH.trans (e24.trans e5)) ht0, upd_same, KQ.above_step W.good ab hrm hneg, ?_⟩
          omega
    · obtain ⟨ff, y3, y4, y5, y6, rfl, eH, htt, be, htot⟩ := hP
      have e : (2500 : Int).toNat = 2500 := rfl
      omega
end
end NQ
namespace NQ
open PySem PySem.Spec PyProof.Rows L2 Evl
open KQ (Row held bump drop bump_same bump_ne drop_same drop_ne linkRow)
theorem paired_perm {α β : Type} {F : α → β → Prop} {xs xs' : List α} (hp : xs'.Perm xs) : ∀ {ys : List β}, Paired F xs ys → ∃ ys' : List β, ys'.Perm ys ∧ Paired F xs' ys' := by
  induction hp with
  | nil => intro ys h; exact ⟨ys, .refl _, h⟩
  | cons x _ ih =>
    intro ys h
    cases h with
    | cons h1 h2 =>
      obtain ⟨ys', e, h3⟩ := ih h2
      exact ⟨_ :: ys', e.cons _, .cons h1 h3⟩
  | swap x y l =>
    intro ys h
    cases h with
    | cons h1 h2 =>
      cases h2 with
      | cons h3 h4 => exact ⟨_, .swap _ _ _, .cons h3 (.cons h1 h4)⟩
  | trans _ _ ih1 ih2 =>
    intro ys h
    obtain ⟨ys1, e1, h1⟩ := ih2 h
    obtain ⟨ys2, e2, h2⟩ := ih1 h1
    exact ⟨ys2, e2.trans e1, h2⟩
theorem paired_append {α β : Type} {F : α → β → Prop} {xs xs' : List α} {ys ys' : List β} (h : Paired F xs ys) (h' : Paired F xs' ys') : Paired F (xs ++ xs') (ys ++ ys') := by
  induction h with
  | nil => exact h'
  | cons h1 _ ih => exact .cons h1 ih
/-- the name ahead in the tuple that a value refers to -/
def kOf (H : Hp) (v : V) : Str := match v with
  | .ref t => match H t with
    | some (.tup (.str z :: _)) => z
    | _ => ""
  | _ => ""
theorem kOf_row {H : Hp} {p : Addr} {r : Row Str} (h : RowH H p r) : kOf H (.ref p) = r.1 := by
  obtain ⟨q, h1, _⟩ := h
  show (match H p with
    | some (.tup (.str z :: _)) => z
    | _ => ("" : Str)) = r.1
  rw [h1]
theorem q_asgEG {te : TE} {σ : L2.St} {H : Hp} {i : Nat} {is : List Nat} {P : Nat → V → Hp → Prop} {D : Ends} {tz : TS} (h : EvG te σ H is P) (k : ∀ p ys H1, H p = none → Ex H H1 → H1 p = some (.lst ys) → Paired (fun i y => P i y H1) is ys → tz D (σ.set i (some (.ref p))) H1) : tSeq (tAsg te (gName i)) tz D σ H :=
  h H (Ex.refl H) _ fun p ys H1 hp e hp1 hpr => k p ys H1 hp e hp1 hpr
/-- sorted of rows with distinct names -/
theorem rows_sorted {H : Hp} {ps : List Addr} {rows : List (Row Str)} (hpr : Paired (RowH H) ps rows) (nd : (names rows).Nodup) {ys : List V} (hp : ys.Perm (ps.map V.ref)) (hs : ys.Pairwise (fun x y => ¬ (kOf H y).cps.toList < (kOf H x).cps.toList)) :
    ∃ (ps' : List Addr) (B : List (Row Str)), ys = ps'.map V.ref ∧ B.Perm rows ∧ AscS (names B) ∧ Paired (RowH H) ps' B := by
  have h1 : Paired (fun v r => ∃ p, v = V.ref p ∧ RowH H p r) (ps.map V.ref) rows := by
    clear nd hp hs
    induction hpr with
    | nil => exact .nil
    | cons h _ ih => exact .cons ⟨_, rfl, h⟩ ih
  obtain ⟨B, e, h2⟩ := paired_perm hp h1
  have h3 : ∃ ps' : List Addr, ys = ps'.map V.ref ∧ Paired (RowH H) ps' B := by
    clear hp hs e
    induction h2 with
    | nil => exact ⟨[], rfl, .nil⟩
    | cons h _ ih =>
      obtain ⟨p, e1, hp⟩ := h
      obtain ⟨ps', e2, h3⟩ := ih
      exact ⟨p :: ps', by rw [e1, e2]; rfl, .cons hp h3⟩
  obtain ⟨ps', rfl, h3⟩ := h3
  refine ⟨ps', B, rfl, e, ?_, h3⟩
  have ndB : (names B).Nodup := (e.map _).nodup_iff.mpr nd
  have hl := paired_len h3
  show (names B).Pairwise _
  rw [List.pairwise_iff_getElem] at hs ⊢
  intro i j hi hj hij
  rw [List.length_map] at hi hj
  have hi' : i < ps'.length := by omega
  have hj' : j < ps'.length := by omega
  have k1 := kOf_row (paired_at h3 (List.getElem?_eq_getElem hi') (List.getElem?_eq_getElem hi))
  have k2 := kOf_row (paired_at h3 (List.getElem?_eq_getElem hj') (List.getElem?_eq_getElem hj))
  have := hs i j (by rw [List.length_map]; exact hi') (by rw [List.length_map]; exact hj') hij
  rw [List.getElem_map, List.getElem_map, k1, k2] at this
  rw [List.getElem_map, List.getElem_map]
  refine Std.lt_of_le_of_ne (List.not_lt.mp this) (str_ne fun z => ?_)
  have := (List.pairwise_iff_getElem.mp ndB) i j (by rw [List.length_map]; exact hi) (by rw [List.length_map]; exact hj) hij
  rw [List.getElem_map, List.getElem_map] at this
  exact this z
def spLink : Sp := fun vs H Q _ => ∃ (a1 a2 : Addr) (one other : List (Row Str)) (house goal : Str) (many : Nat), vs = [.ref a1, .ref a2, .str house, .str goal, .int (many : Nat)] ∧ QH H a1 one ∧ QH H a2 other ∧ 1 ≤ many ∧ many ≤ 60 ∧ one.length + other.length ≤ 40 ∧ (names one ++ names other).Nodup ∧
  ∀ p B H', Ex H H' → B.Perm (one.map (linkRow house goal many) ++ other) → AscS (names B) → QH H' p B → Q (.ref p) H'
section
variable {P : Program} {w : World} {K : PySem.W.Frag} {mg : Str → Option Value} {base : Heap} {f : Addr} {fd : FuncData} {aK : Addr} {tk : Tk}
theorem ok__law_linked (F : Fun K "_law_linked" "_law_linked" s__law_linked f fd) (T : Tx K mg aK tk) : FnOk P w K mg base CX0 1 f fd ["one", "other", "house", "goal", "many"] spLink := by
  refine F.ok sc__law_linked (fun vs H Q E h => ?_) (fun cdv A outer s H vs Q E hr h => ?_)
  · obtain ⟨a1, a2, one, other, house, goal, many, rfl, _⟩ := h
    rfl
  · obtain ⟨a1, a2, one, other, house, goal, many, rfl, hq1, hq2, m1, m60, l40, nd, k⟩ := h
    have hu := hu_of hr
    refine ⟨_, (pss_cons (ps_setLc (i := 5) (own := [("name", 6), ("cash", 7), ("payments", 8)]) rfl sc__law_linked.nd rfl rfl (sw_true rfl rfl rfl (by decide +kernel)) (piTup (K := K) rfl (pe_ix (ixT (K := K) rfl) (pv 0) pe_int (fun _ _ => rfl))) (blkOk_by (own := [("name", 6), ("cash", 7), ("payments", 8)]) (N := N__law_linked) (sc := defScope s__law_linked) (by decide +kernel)) (fun _ _ _ _ _ => (pgTup (K := K) (n := 3) rfl rfl (pgs_cons (pg_name (i := 6) sc__law_linked.nd rfl (Or.inl rfl)) (pgs_cons (pg_name (i := 7) sc__law_linked.nd rfl (Or.inl rfl)) (pgs_cons (pg_name (i := 8) sc__law_linked.nd rfl (Or.inl rfl)) pgs_nil))))) (fun _ _ _ _ _ => pts_nil) (fun _ _ _ _ _ => (pe_tup (pa_cons (pv 6) (pa_cons (pv 7) (pa_cons (pe_ifExp (pt_cmpR op_ne (pv 6) (pv 2) (nomark _)) (pv 8) (pe_op (opRepU (K := K) rfl) (pe_tup (pa_cons (pe_tup (pa_cons (pv 3) (pa_cons pe_int pa_nil))) pa_nil)) (pv 4))) pa_nil))))))
      (pss_one (ps_ret (pe_tup (pa_cons pe_str (pa_cons (pe_callTy (crTup (K := K) rfl) (by rfl) T.tuple (by decide +kernel) (pa_cons (pe_callB (crSortedN (K := K) rfl) (by rfl) T.sorted (by decide +kernel) (pa_cons (pe_op op_cat (pv 5) (pe_callTy (crList (K := K) rfl) (by rfl) T.list (by decide +kernel) (pa_cons (pe_ix (ixT (K := K) rfl) (pv 1) pe_int (fun _ _ => rfl)) pa_nil))) pa_nil)) pa_nil)) pa_nil)))))), ?_⟩
    obtain ⟨b1, ha1, ps1, hb1, hpr1⟩ := id hq1
    obtain ⟨b2, ha2, ps2, hb2, hpr2⟩ := id hq2
    have hlen1 : (ps1.map V.ref).length = one.length := by rw [List.length_map, paired_len hpr1]
    have hlen2 : (ps2.map V.ref).length = other.length := by rw [List.length_map, paired_len hpr2]
    -- found
    refine q_asgEG (el_lcG (te := tTup (tCons (tVar 6) (tCons (tVar 7) (tCons (tIf (tTest (tOp rNe (tVar 6) (tVar 2))) (tVar 8) (tOp (rRepU K) (tTup (tCons (tTup (tCons (tVar 3) (tCons (tC (.int 1)) tNil))) tNil)) (tVar 4))) tNil)))) (g := gTup K 3 (gCons (gName 6) (gCons (gName 7) (gCons (gName 8) gNil)))) (tt := tYes) (vs := [6, 7, 8])
      (σ := [some (.ref a1), some (.ref a2), some (.str house), some (.str goal), some (.int (many : Nat)), none, none, none, none]) (H := H) (ei_tup (K := K) (eq_ev (ev_houses (K := K) (ev_var (i := 0) rfl) ha1) (st_of hb1))) (by rw [hlen1]; omega) (fun _ => true)
      (fun i v H => ∃ p, v = .ref p ∧ RowH H p (linkRow house goal many (one.getD i rowD))) (fun i v H1 H2 e ⟨p, hv, hp⟩ => ⟨p, hv, hp.tx e⟩) fun i x H1 H2 e1 hi hy => ?_) fun fo rs H1 hf0 e1 hf hrows => ?_
    · obtain ⟨rfl, hx⟩ := hy
      obtain ⟨p, r, rfl, _, hqr, q', hrow, hpay⟩ := RowsH.at hpr1 hx
      refine ⟨Ex.refl _, _, fun R h => g_tup3 (i := 6) (j := 7) (l := 8) (e1 _ _ hrow) h, rfl, et_yes, fun _ => ?_⟩
      rw [getD_of hqr]
      intro H3 e3 Q' q'2
      refine ⟨.str r.1, rfl, .int r.2.1, rfl, ?_⟩
      have htest : EvT (tTest (tOp rNe (tVar 6) (tVar 2))) [some (.ref a1), some (.ref a2), some (.str house), some (.str goal), some (.int (many : Nat)), none, some (.str r.1), some (.int r.2.1), some (.ref q')] H3 (!decide (r.1 = house)) :=
        et_is (et_test (ev_op (ev_var rfl) (ev_var rfl) (rv_ne rfl))) (by rw [show decide (V.str r.1 = V.str house) = decide (r.1 = house) from decide_eq_decide.mpr (by rw [V.str.injEq])])
      refine htest H3 (Ex.refl _) _ fun H4 e4 => ?_
      by_cases hh : r.1 = house
      · rw [decide_eq_true hh]
        rw [if_neg (show ¬ (!true) = true by decide)]
        have el : linkRow house goal many r = (r.1, r.2.1, List.replicate many (goal, 1)) := if_pos hh
        rw [el] at q'2
        refine ⟨.str goal, rfl, by show 2 ≤ sizeLine; decide, fun t1 ht1 => ⟨by show 1 ≤ sizeLine; decide, fun t2 ht2 => ⟨.int (many : Nat), rfl, ?_⟩⟩⟩
        have x1 : Ex H4 (upd H4 t1 (.tup [.str goal, .int 1])) := Ex.new ht1
        have x2 := x1.trans (Ex.new (o := .tup [.ref t1]) ht2)
        have ht1' : (upd (upd H4 t1 (.tup [.str goal, .int 1])) t2 (.tup [.ref t1])) t1 = some (.tup [.str goal, .int 1]) := by
          rw [upd_ne (ne_of_none (upd_same (H := H4) (a := t1) (o := .tup [.str goal, .int 1])) ht2)]
          exact upd_same
        have ht2' : (upd (upd H4 t1 (.tup [.str goal, .int 1])) t2 (.tup [.ref t1])) t2 = some (.tup [.ref t1]) := upd_same
        generalize upd (upd H4 t1 (.tup [.str goal, .int 1])) t2 (.tup [.ref t1]) = H5 at x2 ht1' ht2'
        have fin : ∀ (tq : Addr) (H6 : Hp), Ex H5 H6 → H6 tq = some (.tup (List.replicate many (V.ref t1))) → (3 ≤ sizeLine ∧ ∀ p, H6 p = none → Q' (.ref p) (upd H6 p (.tup [.str r.1, .int r.2.1, .ref tq]))) := fun tq H6 e6 htq => by
          refine ⟨by decide, fun p hp => ?_⟩
          have x7 : Ex H6 (upd H6 p (.tup [.str r.1, .int r.2.1, .ref tq])) := Ex.new hp
          refine q'2 _ _ (((e4.trans x2).trans e6).trans x7) ⟨p, rfl, tq, upd_same, List.replicate many t1, ?_, ?_⟩
          · rw [List.map_replicate]
            exact x7 _ _ htq
          · refine paired_of (by rw [List.length_replicate, List.length_replicate]) fun i x y hx hy => ?_
            obtain ⟨_, e1⟩ := List.mem_replicate.mp (List.mem_of_getElem? hx)
            obtain ⟨_, e2⟩ := List.mem_replicate.mp (List.mem_of_getElem? hy)
            rw [e1, e2]
            exact (e6.trans x7) _ _ ht1'
        by_cases hm : many = 1
        · subst hm
          exact Or.inr ⟨t2, [.ref t1], rfl, rfl, st_of ht2', fin t2 H5 (Ex.refl _) ht2'⟩
        · refine Or.inl ⟨t2, (many : Int), [.ref t1], rfl, rfl, st_of ht2', by simp, by omega, by omega, by show 1 ≤ 1000; omega, fun tq htq => fin tq _ (Ex.new htq) ?_⟩
          rw [upd_same, Int.toNat_natCast]
          have : ∀ n, (List.replicate n [V.ref t1]).flatten = List.replicate n (V.ref t1) := fun n => by
            induction n with
            | zero => rfl
            | succ n ih => rw [List.replicate_succ, List.flatten_cons, ih]; rfl
          rw [this]
      · rw [decide_eq_false hh]
        rw [if_pos (show (!false) = true by decide)]
        have el : linkRow house goal many r = r := if_neg hh
        rw [el] at q'2
        refine ⟨.ref q', rfl, by show 3 ≤ sizeLine; decide, fun p2 hp2 => ?_⟩
        have x7 : Ex H4 (upd H4 p2 (.tup [.str r.1, .int r.2.1, .ref q'])) := Ex.new hp2
        exact q'2 _ _ (e4.trans x7) ⟨p2, rfl, q', upd_same, hpay.tx (TX.of ((e1.trans e3).trans (e4.trans x7)))⟩
    · rw [idxs_all] at hrows
      obtain ⟨ps, rfl, hps⟩ : ∃ ps : List Addr, rs = ps.map V.ref ∧ Paired (RowH H1) ps (one.map (linkRow house goal many)) := by
        have gen : ∀ (is : List Nat) (rs : List V), Paired (fun i y => ∃ p, y = V.ref p ∧ RowH H1 p (linkRow house goal many (one.getD i rowD))) is rs → ∃ ps : List Addr, rs = ps.map V.ref ∧ Paired (RowH H1) ps (is.map fun i => linkRow house goal many (one.getD i rowD)) := fun is rs h => by
          induction h with
          | nil => exact ⟨[], rfl, .nil⟩
          | cons h1 _ ih =>
            obtain ⟨p, e, hp⟩ := h1
            obtain ⟨ps, e2, h2⟩ := ih
            exact ⟨p :: ps, by rw [e, e2]; rfl, .cons hp h2⟩
        obtain ⟨ps, e, h2⟩ := gen _ _ hrows
        refine ⟨ps, e, ?_⟩
        rw [hlen1, map_range_getD rowD (linkRow house goal many) one] at h2
        exact h2
      -- found + list(other[1])
      refine ⟨.ref fo, rfl, ?_⟩
      refine ev_houses (K := K) (σ := [some (.ref a1), some (.ref a2), some (.str house), some (.str goal), some (.int (many : Nat)), some (.ref fo), none, none, none]) (H := H1) (ev_var (i := 1) rfl) (e1 _ _ ha2) H1 (Ex.refl _) _ fun H2 e2 => ?_
      have e12 := e1.trans e2
      refine ⟨b2, _, rfl, Or.inr (st_of (e12 _ _ hb2)), fun l2 hl2 => ?_⟩
      have x3 : Ex H2 (upd H2 l2 (.lst (ps2.map V.ref))) := Ex.new hl2
      have hl3 : (upd H2 l2 (.lst (ps2.map V.ref))) l2 = some (.lst (ps2.map V.ref)) := upd_same
      generalize upd H2 l2 (.lst (ps2.map V.ref)) = H3 at x3 hl3
      have l1 : ps.length = one.length := by
        have := paired_len hps
        rw [List.length_map] at this
        exact this
      have l2' : ps2.length = other.length := paired_len hpr2
      refine ⟨fo, l2, ps.map V.ref, ps2.map V.ref, rfl, rfl, (e2.trans x3) _ _ hf, hl3, by
        rw [List.length_map, List.length_map]
        exact sz_of (by omega), fun l4 hl4 => ?_⟩
      have x4 : Ex H3 (upd H3 l4 (.lst (ps.map V.ref ++ ps2.map V.ref))) := Ex.new hl4
      have hl5 : (upd H3 l4 (.lst (ps.map V.ref ++ ps2.map V.ref))) l4 = some (.lst (ps.map V.ref ++ ps2.map V.ref)) := upd_same
      generalize upd H3 l4 (.lst (ps.map V.ref ++ ps2.map V.ref)) = H4 at x4 hl5
      have e24 := e2.trans (x3.trans x4)
      have hpr : Paired (RowH H4) (ps ++ ps2) (one.map (linkRow house goal many) ++ other) := paired_append (L2.Paired.mapP hps fun _ _ z => z.tx (TX.of e24)) (L2.Paired.mapP hpr2 fun _ _ z => z.tx (TX.of (e1.trans e24)))
      have nd2 : (names (one.map (linkRow house goal many) ++ other)).Nodup := by
        have : names (one.map (linkRow house goal many) ++ other) = names one ++ names other := by
          show List.map _ _ = _
          rw [List.map_append, List.map_map]
          congr 1
          exact List.map_congr_left fun r _ => KQ.link_name house goal many r
        rw [this]
        exact nd
      rw [← List.map_append] at hl5
      -- sorted
      refine ⟨l4, (ps ++ ps2).map V.ref, kOf H4, rfl, sq_of hl5, fun x hx => ?_, fun x hx y hy hk => ?_, fun ys p hperm hpw hp => ?_⟩
      · obtain ⟨t, ht, rfl⟩ := List.mem_map.mp hx
        obtain ⟨j, hj⟩ := List.mem_iff_getElem?.mp ht
        obtain ⟨r, hr⟩ := get_of (l := one.map (linkRow house goal many) ++ other) (i := j) rfl (by rw [← paired_len hpr]; exact (List.getElem?_eq_some_iff.mp hj).1)
        have hrow := paired_at hpr hj hr
        rw [kOf_row hrow]
        obtain ⟨q, h1, _⟩ := hrow
        exact ⟨t, _, rfl, h1⟩
      · obtain ⟨t, ht, rfl⟩ := List.mem_map.mp hx
        obtain ⟨t', ht', rfl⟩ := List.mem_map.mp hy
        obtain ⟨j, hj⟩ := List.mem_iff_getElem?.mp ht
        obtain ⟨i, hi⟩ := List.mem_iff_getElem?.mp ht'
        have hjl := (List.getElem?_eq_some_iff.mp hj).1
        have hil := (List.getElem?_eq_some_iff.mp hi).1
        obtain ⟨r, hr⟩ := get_of (l := one.map (linkRow house goal many) ++ other) (i := j) rfl (by rw [← paired_len hpr]; exact hjl)
        obtain ⟨r', hr'⟩ := get_of (l := one.map (linkRow house goal many) ++ other) (i := i) rfl (by rw [← paired_len hpr]; exact hil)
        rw [kOf_row (paired_at hpr hj hr), kOf_row (paired_at hpr hi hr')] at hk
        have a1 : (names (one.map (linkRow house goal many) ++ other))[j]? = some r.1 := by rw [List.getElem?_map, hr]; rfl
        have a2 : (names (one.map (linkRow house goal many) ++ other))[i]? = some r'.1 := by rw [List.getElem?_map, hr']; rfl
        rw [hk, ← a2] at a1
        have := (List.getElem?_inj (by rw [List.length_map, ← paired_len hpr]; exact hjl) nd2).mp a1
        rw [this, hi] at hj
        rw [Option.some.inj hj]
      · obtain ⟨ps', B, rfl, hB, hasc, hpB⟩ := rows_sorted hpr nd2 hperm hpw
        have x5 : Ex H4 (upd H4 p (.lst (ps'.map V.ref))) := Ex.new hp
        have hp5 : (upd H4 p (.lst (ps'.map V.ref))) p = some (.lst (ps'.map V.ref)) := upd_same
        generalize upd H4 p (.lst (ps'.map V.ref)) = H5 at x5 hp5
        refine ⟨p, _, rfl, Or.inl ⟨sq_of hp5, fun tl htl => ⟨by show 2 ≤ sizeLine; decide, fun rp hrp => ?_⟩⟩⟩
        have x6 : Ex H5 (upd H5 tl (.tup (ps'.map V.ref))) := Ex.new htl
        have x7 := x6.trans (Ex.new (o := .tup [.str "queues", .ref tl]) hrp)
        refine k rp B _ ((e1.trans e24).trans (x5.trans x7)) hB hasc ⟨tl, upd_same, ps', ?_, L2.Paired.mapP hpB fun _ _ z => z.tx (TX.of (x5.trans x7))⟩
        rw [upd_ne (ne_of_none (upd_same (H := H5) (a := tl) (o := .tup (ps'.map V.ref))) hrp)]
        exact upd_same
end
end NQ
namespace KQ
variable {α : Type} [DecidableEq α]
/-! ### the same payments, other cash -/
def mc (g : Row α → Int) (qs : List (Row α)) : List (Row α) := qs.map fun r => (r.1, g r, r.2.2)
section
variable {qs : List (Row α)} {g : Row α → Int} {c d : α → Int} {f h : α → Nat}
theorem mc_mem {q : Row α} (h : q ∈ mc g qs) : ∃ r ∈ qs, q = (r.1, g r, r.2.2) := by
  obtain ⟨r, hr, e⟩ := List.mem_map.mp h
  exact ⟨r, hr, e.symm⟩
theorem mc_in {r : Row α} (h : r ∈ qs) : (r.1, g r, r.2.2) ∈ mc g qs := List.mem_map.mpr ⟨r, h, rfl⟩
theorem mc_got (f : α → Nat) (y : α) : got (mc g qs) f y = got qs f y := by
  unfold got mc
  rw [List.map_map]
  rfl
theorem mc_held (c : α → Int) (f : α → Nat) (r : Row α) (u : Int) : held (mc g qs) c f (r.1, u, r.2.2) = held qs c f r := by
  unfold held
  rw [mc_got]
theorem mc_within : Within (mc g qs) f ↔ Within qs f :=
  ⟨fun h r hr => by
    have := h _ (mc_in (g := g) hr)
    exact this, fun h q hq => by
    obtain ⟨r, hr, rfl⟩ := mc_mem hq
    exact h r hr⟩
theorem mc_leq : Leq (mc g qs) f h ↔ Leq qs f h :=
  ⟨fun h r hr => by
    have := h _ (mc_in (g := g) hr)
    exact this, fun h q hq => by
    obtain ⟨r, hr, rfl⟩ := mc_mem hq
    exact h r hr⟩
theorem mc_stable : Stable (mc g qs) c f ↔ Stable qs c f :=
  ⟨fun h r hr x hx => by
    have := h _ (mc_in hr) x hx
    rw [mc_held] at this
    exact this, fun h q hq x hx => by
    obtain ⟨r, hr, rfl⟩ := mc_mem hq
    rw [mc_held]
    exact h r hr x hx⟩
theorem mc_feas : Feas (mc g qs) c f ↔ Feas qs c f :=
  ⟨fun h r hr => by
    have := h _ (mc_in hr)
    rw [mc_held] at this
    exact this, fun h q hq => by
    obtain ⟨r, hr, rfl⟩ := mc_mem hq
    rw [mc_held]
    exact h r hr⟩
theorem mc_least : Least (mc g qs) c f ↔ Least qs c f := by
  unfold Least Below
  rw [mc_stable, mc_within]
  constructor
  · rintro ⟨⟨a, b⟩, e⟩
    exact ⟨⟨a, fun k wk sk => mc_leq.mp (b k (mc_within.mpr wk) (mc_stable.mpr sk))⟩, e⟩
  · rintro ⟨⟨a, b⟩, e⟩
    exact ⟨⟨a, fun k wk sk => mc_leq.mpr (b k (mc_within.mp wk) (mc_stable.mp sk))⟩, e⟩
theorem mc_great : Great (mc g qs) c f ↔ Great qs c f := by
  unfold Great Above
  rw [mc_feas, mc_within]
  constructor
  · rintro ⟨⟨a, b⟩, e⟩
    exact ⟨⟨a, fun k wk sk => mc_leq.mp (b k (mc_within.mpr wk) (mc_feas.mpr sk))⟩, e⟩
  · rintro ⟨⟨a, b⟩, e⟩
    exact ⟨⟨a, fun k wk sk => mc_leq.mpr (b k (mc_within.mp wk) (mc_feas.mp sk))⟩, e⟩
theorem feas_more (hc : ∀ r ∈ qs, c r.1 ≤ d r.1) (s : Feas qs c f) : Feas qs d f := fun r hr => by
  have h1 := s r hr
  have h2 := hc r hr
  unfold held at h1 ⊢
  omega
theorem least_congr (hc : ∀ r ∈ qs, c r.1 = d r.1) (hl : Least qs c f) : Least qs d f :=
  ⟨below_more (fun r hr => Int.le_of_eq (hc r hr)) hl.1, stable_less (fun r hr => Int.le_of_eq (hc r hr).symm) hl.2⟩
theorem great_congr (hc : ∀ r ∈ qs, c r.1 = d r.1) (hl : Great qs c f) : Great qs d f :=
  ⟨⟨hl.1.1, fun k wk sk => hl.1.2 k wk (feas_more (fun r hr => Int.le_of_eq (hc r hr).symm) sk)⟩, feas_more (fun r hr => Int.le_of_eq (hc r hr)) hl.2⟩
end
/-! ### the least or the greatest -/
def Opt : Bool → List (Row α) → (α → Int) → (α → Nat) → Prop
  | true => Least
  | false => Great
section
variable {m : Bool} {qs : List (Row α)} {g : Row α → Int} {c d : α → Int} {f h : α → Nat}
theorem Opt.within (o : Opt m qs c f) : Within qs f := by
  cases m
  · exact o.1.1
  · exact o.1.1
theorem Opt.eq (o : Opt m qs c f) (p : Opt m qs c h) : EqOn qs f h := by
  cases m
  · exact great_eq o p
  · exact least_eq o p
theorem opt_mc : Opt m (mc g qs) c f ↔ Opt m qs c f := by
  cases m
  · exact mc_great
  · exact mc_least
theorem opt_congr (hc : ∀ r ∈ qs, c r.1 = d r.1) (o : Opt m qs c f) : Opt m qs d f := by
  cases m
  · exact great_congr hc o
  · exact least_congr hc o
end
section
variable {one other B : List (Row α)} {house goal : α} {many : Nat} {r0 : Row α} {c : α → Int}
theorem Linked.opt (L : Linked one other B house goal many r0) {m : Bool} {f1 f2 : α → Nat} {come : Nat} (h1 : Opt m one c f1) (hc : (come : Int) = min (many : Int) (held one c f1 r0)) (h2 : Opt m other (addC c goal (come : Int)) f2) : Opt m B c (comb other house f1 come f2) := by
  cases m
  · exact L.great h1 hc h2
  · exact L.least h1 hc h2
theorem Linked.come0 (L : Linked one other B house goal many r0) (f1 : α → Nat) (h0 : 0 ≤ c house) : 0 ≤ held one c f1 r0 := by
  have := got_nonneg L.G1 f1 r0.1
  unfold held
  rw [L.hp, out_nil, L.hn]
  rw [L.hn] at this
  omega
/-- all that the one's house has made is nothing -/
theorem Linked.eqOne (L : Linked one other B house goal many r0) {f1 g1 : α → Nat} (wf : Within one f1) (wg : Within one g1) : EqOn one f1 g1 ↔ ∀ r ∈ one, r.1 ≠ house → f1 r.1 = g1 r.1 := by
  constructor
  · exact fun h r hr _ => h r hr
  · intro h r hr
    by_cases e : r.1 = house
    · have h1 := wf r hr
      have h2 := wg r hr
      rw [L.empty r hr e] at h1 h2
      simp only [List.length_nil] at h1 h2
      omega
    · exact h r hr e
theorem Linked.flow (L : Linked one other B house goal many r0) {f1 f2 g1 g2 fB gB : α → Nat} {k m : Nat} (h1 : Least one c f1) (hk : (k : Int) = min (many : Int) (held one c f1 r0)) (h2 : Least other (addC c goal (k : Int)) f2) (i1 : Great one c g1) (hm : (m : Int) = min (many : Int) (held one c g1 r0)) (i2 : Great other (addC c goal (m : Int)) g2)
    (hB : Least B c fB) (iB : Great B c gB) : EqOn B fB gB ↔ EqOn one f1 g1 ∧ k = m ∧ EqOn other f2 g2 := by
  have e1 := least_eq hB (L.least h1 hk h2)
  have e2 := great_eq iB (L.great i1 hm i2)
  rw [L.eqOne h1.1.1 i1.1.1, ← L.eq_iff]
  constructor
  · intro h R hR
    rw [← e1 R hR, ← e2 R hR]
    exact h R hR
  · intro h R hR
    rw [e1 R hR, e2 R hR]
    exact h R hR
theorem setC_add {z goal : α} {c : α → Int} {v k : Int} (hn : z ≠ goal) : addC (setC c z v) goal k = setC (addC c goal k) z v := by
  funext y
  unfold addC setC
  by_cases e1 : y = z
  · rw [if_pos e1, if_pos e1, if_neg (by rw [e1]; exact hn)]
    omega
  · rw [if_neg e1, if_neg e1]
/-- a house of the one is rich enough exactly if what comes then is enough -/
theorem Linked.enough (L : Linked one other B house goal many r0) {f1 f2 gl : α → Nat} {k : Nat} (h1 : Least one c f1) (hk : (k : Int) = min (many : Int) (held one c f1 r0)) (h2 : Least other (addC c goal (k : Int)) f2) (g1 : ∀ r ∈ one, gl r.1 = 0) (g2 : ∀ q ∈ other, gl q.1 = q.2.2.length) :
    Reach B c gl ↔ ∀ q ∈ other, f2 q.1 = q.2.2.length := by
  rw [L.reach2 g1 (L.least h1 hk h2)]
  constructor
  · intro h q hq
    have a := h q hq
    rw [g2 q hq] at a
    have b := h2.1.1 q hq
    omega
  · intro h q hq
    rw [g2 q hq, h q hq]
    exact Nat.le_refl _
end
end KQ
namespace NQ
open PySem PySem.Spec PyProof.Rows L2 Evl
open KQ (Row held linkRow Linked Opt addC setC comb mc)
def unpay (z : Str) (qs : List (Row Str)) : List (Row Str) := qs.map fun r => (r.1, r.2.1, if r.1 = z then [] else r.2.2)
section
variable {qs : List (Row Str)} {z : Str} {v : Int}
theorem unpay_names : names (unpay z qs) = names qs := by
  show List.map _ (List.map _ qs) = List.map _ qs
  rw [List.map_map]
  rfl
theorem unpay_mem {q : Row Str} (h : q ∈ unpay z qs) : ∃ r ∈ qs, q = (r.1, r.2.1, if r.1 = z then [] else r.2.2) := by
  obtain ⟨r, hr, e⟩ := List.mem_map.mp h
  exact ⟨r, hr, e.symm⟩
theorem unpay_good (g : GoodQ qs) : GoodQ (unpay z qs) := by
  have hl : (unpay z qs).length = qs.length := List.length_map ..
  refine ⟨by rw [hl]; exact g.l1, by rw [hl]; exact g.l40, by rw [unpay_names]; exact g.asc, fun q hq => ?_, fun q hq => ?_, fun q hq => ?_, fun q hq => ?_⟩
  · obtain ⟨r, hr, rfl⟩ := unpay_mem hq
    exact g.nm r hr
  · obtain ⟨r, hr, rfl⟩ := unpay_mem hq
    exact g.c0 r hr
  · obtain ⟨r, hr, rfl⟩ := unpay_mem hq
    exact g.cM r hr
  · obtain ⟨r, hr, rfl⟩ := unpay_mem hq
    have p := g.pay r hr
    rw [unpay_names]
    show GoodP r.1 _ (if r.1 = z then [] else r.2.2)
    split
    · exact ⟨Nat.zero_le _, fun x hx => by (cases hx), fun x hx => by (cases hx), fun x hx => by (cases hx), fun x hx => by (cases hx)⟩
    · exact p
theorem add_mc : addcash z v qs = mc (fun r => if r.1 = z then r.2.1 + v else r.2.1) qs := rfl
theorem recash_mc : recash z v qs = mc (fun r => if r.1 = z then v else r.2.1) qs := rfl
theorem mc_names (g : Row Str → Int) : names (mc g qs) = names qs := by
  show List.map _ (List.map _ qs) = List.map _ qs
  rw [List.map_map]
  rfl
theorem mc_tolK (g : Row Str → Int) (f : Str → Nat) : tolK (mc g qs) f = tolK qs f := by
  unfold tolK dI mc
  rw [List.map_map]
  rfl
theorem mc_well (g : Row Str → Int) (W : WellQ qs) : WellQ (mc g qs) := by
  refine ⟨by rw [mc_names]; exact W.nd, by show (List.map _ qs).length ≤ 40; rw [List.length_map]; exact W.l40, fun q hq => ?_, fun q hq => ?_, fun q hq => ?_, fun q hq => ?_⟩
  · obtain ⟨r, hr, rfl⟩ := KQ.mc_mem hq
    exact W.pos r hr
  · obtain ⟨r, hr, rfl⟩ := KQ.mc_mem hq
    exact W.len r hr
  · obtain ⟨r, hr, rfl⟩ := KQ.mc_mem hq
    rw [mc_names]
    exact W.mem r hr
  · obtain ⟨r, hr, rfl⟩ := KQ.mc_mem hq
    exact W.ok r hr
theorem mc_goodQ (g : Row Str → Int) (G : GoodQ qs) (h0 : ∀ r ∈ qs, 0 ≤ g r) (h1 : ∀ r ∈ qs, g r ≤ 1000000) : GoodQ (mc g qs) := by
  have hl : (mc g qs).length = qs.length := List.length_map ..
  refine ⟨by rw [hl]; exact G.l1, by rw [hl]; exact G.l40, by rw [mc_names]; exact G.asc, fun q hq => ?_, fun q hq => ?_, fun q hq => ?_, fun q hq => ?_⟩
  · obtain ⟨r, hr, rfl⟩ := KQ.mc_mem hq
    exact G.nm r hr
  · obtain ⟨r, hr, rfl⟩ := KQ.mc_mem hq
    exact h0 r hr
  · obtain ⟨r, hr, rfl⟩ := KQ.mc_mem hq
    exact h1 r hr
  · obtain ⟨r, hr, rfl⟩ := KQ.mc_mem hq
    rw [mc_names]
    exact G.pay r hr
theorem mc_cash (g : Row Str → Int) (nd : (names qs).Nodup) {r : Row Str} (h : r ∈ qs) : cashF (mc g qs) r.1 = g r := cashF_at (by rw [mc_names]; exact nd) (KQ.mc_in (g := g) h)
end
/-- what a lap has drawn -/
structure LapF (one other B : List (Row Str)) (house goal : Str) (many : Nat) (r0 : Row Str) : Prop where
  g1 : GoodQ one
  g2 : GoodQ other
  gB : GoodQ B
  L : Linked one other B house goal many r0
  m1 : 1 ≤ many
  m8 : many ≤ 8
  c2 : ∀ r ∈ other, r.2.1 ≤ 1000
  l1 : one.length ≤ 20
  l2 : other.length ≤ 20
theorem mem_name {qs : List (Row Str)} {z : Str} (h : z ∈ names qs) : ∃ r ∈ qs, r.1 = z := List.mem_map.mp h
theorem lap_facts {one0 other B : List (Row Str)} {house goal : Str} {many : Nat} (g0 : GoodQ one0) (g2 : GoodQ other) (nd : (names one0 ++ names other).Nodup) (hh : house ∈ names one0) (hg : goal ∈ names other) (m1 : 1 ≤ many) (m8 : many ≤ 8) (c2 : ∀ r ∈ other, r.2.1 ≤ 1000)
    (l1 : one0.length ≤ 20) (l2 : other.length ≤ 20) (hB : B.Perm ((unpay house one0).map (linkRow house goal many) ++ other)) (asc : AscS (names B)) : ∃ r0, LapF (unpay house one0) other B house goal many r0 := by
  have g1 : GoodQ (unpay house one0) := unpay_good g0
  obtain ⟨rr, hrr, hrn⟩ := mem_name hh
  have hul : (unpay house one0).length = one0.length := List.length_map ..
  have dis : ∀ r ∈ unpay house one0, ∀ q ∈ other, r.1 ≠ q.1 := fun r hr q hq e => by
    have h1 : r.1 ∈ names one0 := by
      rw [← unpay_names (z := house)]
      exact List.mem_map.mpr ⟨r, hr, rfl⟩
    have h2 : r.1 ∈ names other := by
      rw [e]
      exact List.mem_map.mpr ⟨q, hq, rfl⟩
    exact (List.nodup_append.mp nd).2.2 _ h1 _ h2 rfl
  have L : Linked (unpay house one0) other B house goal many (rr.1, rr.2.1, []) := by
    refine ⟨g1.good, g2.good, dis, fun r hr x hx => ?_, fun r hr x hx => ?_, ?_, hrn, rfl, mem_name hg, hB⟩
    · exact mem_name ((g1.pay r hr).mem x hx)
    · exact mem_name ((g2.pay r hr).mem x hx)
    · refine List.mem_map.mpr ⟨rr, hrr, ?_⟩
      rw [if_pos hrn]
  refine ⟨_, g1, g2, ⟨?_, ?_, asc, fun R hR => ?_, fun R hR => ?_, fun R hR => ?_, fun R hR => ?_⟩, L, m1, m8, c2, by rw [hul]; exact l1, l2⟩
  · rw [hB.length_eq, List.length_append, List.length_map]
    have := g1.l1
    omega
  · rw [hB.length_eq, List.length_append, List.length_map, hul]
    omega
  · rcases L.mem.mp hR with ⟨r, hr, rfl⟩ | h
    · rw [KQ.link_name]
      exact g1.nm r hr
    · exact g2.nm R h
  · rcases L.mem.mp hR with ⟨r, hr, rfl⟩ | h
    · have := g1.c0 r hr
      unfold KQ.linkRow
      split <;> exact this
    · exact g2.c0 R h
  · rcases L.mem.mp hR with ⟨r, hr, rfl⟩ | h
    · have := g1.cM r hr
      unfold KQ.linkRow
      split <;> exact this
    · exact g2.cM R h
  · have in1 : ∀ z ∈ names (unpay house one0), z ∈ names B := fun z hz => by
      obtain ⟨r, hr, rfl⟩ := mem_name hz
      exact List.mem_map.mpr ⟨_, L.mem.mpr (Or.inl ⟨r, hr, rfl⟩), KQ.link_name _ _ _ _⟩
    have in2 : ∀ z ∈ names other, z ∈ names B := fun z hz => by
      obtain ⟨r, hr, rfl⟩ := mem_name hz
      exact List.mem_map.mpr ⟨_, L.mem.mpr (Or.inr hr), rfl⟩
    rcases L.mem.mp hR with ⟨r, hr, rfl⟩ | h
    · by_cases e : r.1 = house
      · rw [show linkRow house goal many r = (r.1, r.2.1, List.replicate many (goal, 1)) from if_pos e]
        refine ⟨by show (List.replicate many _).length ≤ 60; rw [List.length_replicate]; omega, fun x hx => ?_, fun x hx => ?_, fun x hx => ?_, fun x hx => ?_⟩
        · rw [(List.mem_replicate.mp hx).2]
          have := L.goal_ne hr
          exact this
        · rw [(List.mem_replicate.mp hx).2]
          exact in2 goal hg
        · rw [(List.mem_replicate.mp hx).2]
          exact Int.le_refl _
        · rw [(List.mem_replicate.mp hx).2]
          show (1 : Int) ≤ 1000000
          decide
      · rw [KQ.link_ne e]
        have p := g1.pay r hr
        exact ⟨p.len, p.ne, fun x hx => in1 _ (p.mem x hx), p.lo, p.hi⟩
    · have p := g2.pay R h
      exact ⟨p.len, p.ne, fun x hx => in2 _ (p.mem x hx), p.lo, p.hi⟩
section
variable {one other B : List (Row Str)} {house goal : Str} {many : Nat} {r0 : Row Str}
/-- cash of the whole is that of the parts -/
theorem LapF.cash1 (F : LapF one other B house goal many r0) {r : Row Str} (h : r ∈ one) : cashF B r.1 = r.2.1 := by
  have hm := F.L.mem.mpr (Or.inl ⟨r, h, rfl⟩)
  have := cashF_at (asc_nodup F.gB.asc) hm
  rw [KQ.link_name] at this
  rw [this]
  unfold KQ.linkRow
  split <;> rfl
theorem LapF.cash2 (F : LapF one other B house goal many r0) {r : Row Str} (h : r ∈ other) : cashF B r.1 = r.2.1 := cashF_at (asc_nodup F.gB.asc) (F.L.mem.mpr (Or.inr h))
theorem LapF.cc1 (F : LapF one other B house goal many r0) : ∀ r ∈ one, cashF one r.1 = cashF B r.1 := fun r h => by rw [F.cash1 h, cashF_at (asc_nodup F.g1.asc) h]
theorem LapF.cc2 (F : LapF one other B house goal many r0) (v : Int) : ∀ r ∈ other, cashF (addcash goal v other) r.1 = addC (cashF B) goal v r.1 := fun r h => by
  rw [add_mc, mc_cash _ (asc_nodup F.g2.asc) h]
  unfold KQ.addC
  rw [F.cash2 h]
  split <;> omega
/-- what the law's own sums say of the parts, as of the whole -/
theorem LapF.opt1 (F : LapF one other B house goal many r0) {m : Bool} {f : Str → Nat} (h : Opt m one (cashF one) f) : Opt m one (cashF B) f := KQ.opt_congr F.cc1 h
theorem LapF.opt2 (F : LapF one other B house goal many r0) {m : Bool} {f : Str → Nat} {v : Int} (h : Opt m (addcash goal v other) (cashF (addcash goal v other)) f) : Opt m other (addC (cashF B) goal v) f := by
  rw [add_mc, KQ.opt_mc] at h
  exact KQ.opt_congr (F.cc2 v) h
theorem LapF.h0 (F : LapF one other B house goal many r0) : 0 ≤ cashF B house := by
  have := F.g1.c0 r0 F.L.hr
  rw [← F.L.hn, F.cash1 F.L.hr]
  exact this
theorem LapF.heldB (F : LapF one other B house goal many r0) (f : Str → Nat) : held one (cashF one) f r0 = held one (cashF B) f r0 := by
  unfold KQ.held
  rw [F.cc1 r0 F.L.hr]
theorem LapF.come (F : LapF one other B house goal many r0) (f : Str → Nat) : ∃ k : Nat, (k : Int) = min (many : Int) (held one (cashF B) f r0) ∧ k ≤ 8 := by
  have := F.L.come0 f F.h0
  have m8 := F.m8
  exact ⟨(min (many : Int) (held one (cashF B) f r0)).toNat, by omega, by omega⟩
theorem LapF.goodMore (F : LapF one other B house goal many r0) {k : Nat} (hk : k ≤ 8) : GoodQ (addcash goal (k : Int) other) := by
  rw [add_mc]
  refine mc_goodQ _ F.g2 (fun r hr => ?_) fun r hr => ?_
  · have := F.g2.c0 r hr
    split <;> omega
  · have := F.c2 r hr
    split <;> omega
end
end NQ
namespace NQ
open PySem PySem.Spec PyProof.Rows L2 Evl
open KQ (Row held linkRow Linked Opt addC setC comb mc)
abbrev rMin2 : List V → Hp → VK → Prop := fun xs H Q => ∃ i j, xs = [.int i, .int j] ∧ Q (.int (if j < i then j else i)) H
abbrev rNotN' : R2 := fun x y H Q => y = .non ∧ Q (.bl (!decide (x = .non))) H
/-- counts of payments made, a new dict -/
def EvTold (m : Bool) (qs : List (Row Str)) (te : TE) (σ : L2.St) (H : Hp) : Prop := ∀ H1, Ex H H1 → ∀ Q : VK, (∀ p f H2, H1 p = none → Ex H1 H2 → Opt m qs (cashF qs) f → H2 p = some (.dK (tolK qs f)) → Q (.ref p) H2) → te σ H1 Q
/-- a state -/
def EvSt (qs : List (Row Str)) (f : Str → Nat) (te : TE) (σ : L2.St) (H : Hp) : Prop := ∀ H1, Ex H H1 → ∀ Q : VK, (∀ p H2, Ex H1 H2 → StH H2 p qs f → Q (.ref p) H2) → te σ H1 Q
def spOwn : Bool → Sp
  | true => spRunL
  | false => spBackL
def spWork : Bool → Sp
  | true => spFin
  | false => spGre
section
variable {K : PySem.W.Frag} {σ : L2.St} {H H' : Hp} {ta tb tc te td ty tl : TE} {t u tt : TT} {x y z v : V} {tr : TA} {D : Ends} {tz tu : TS}
theorem gv_more {a : Addr} {qs : List (Row Str)} {z : Str} {v : Int} (h : EvA tr σ H [.ref a, .str z, .int v]) (hq : QH H a qs) (l40 : qs.length ≤ 40) : Gv (tCall spMore [] E0 tr) σ H (fun w H2 => ∃ p, w = .ref p ∧ QH H2 p (addcash z v qs)) := fun H1 e Q q => by
  refine h H1 e _ fun H2 e2 => ?_
  rw [List.append_nil]
  exact ⟨a, qs, z, v, rfl, hq.tx (TX.of (e.trans e2)), l40, fun p H' e3 h3 => q _ H' (e2.trans e3) ⟨p, rfl, h3⟩⟩
theorem gv_richer {a : Addr} {qs : List (Row Str)} {z : Str} {v : Int} (h : EvA tr σ H [.ref a, .str z, .int v]) (hq : QH H a qs) (l40 : qs.length ≤ 40) : Gv (tCall spRicher [] E0 tr) σ H (fun w H2 => ∃ p, w = .ref p ∧ QH H2 p (recash z v qs)) := fun H1 e Q q => by
  refine h H1 e _ fun H2 e2 => ?_
  rw [List.append_nil]
  exact ⟨a, qs, z, v, rfl, hq.tx (TX.of (e.trans e2)), l40, fun p H' e3 h3 => q _ H' (e2.trans e3) ⟨p, rfl, h3⟩⟩
theorem gv_q {a : Addr} {qs : List (Row Str)} (h : Ev te σ H (.ref a)) (hq : QH H a qs) : Gv te σ H (fun w H2 => ∃ p, w = .ref p ∧ QH H2 p qs) := fun H1 e Q q => h H1 e _ fun H2 e2 => q _ H2 e2 ⟨a, rfl, hq.tx (TX.of (e.trans e2))⟩
theorem told_run {qs : List (Row Str)} (h : Gv te σ H (fun w H2 => ∃ p, w = .ref p ∧ QH H2 p qs)) (W : WellQ qs) : EvTold true qs (tCall spRunL [] E0 (tCons te tNil)) σ H := fun H1 e Q q => by
  refine h H1 e _ fun w H2 e2 ⟨p, hw, hq⟩ => ?_
  subst hw
  exact ⟨p, qs, rfl, hq, W, fun d f H' hd e3 hl hd' => q d f H' (fresh_back e2 hd) (e2.trans e3) hl hd'⟩
theorem told_own {m : Bool} {i : Nat} {fa : Addr} {S : Addr → Option Sp} {qs : List (Row Str)} (hi : σ[i]? = some (some (.ref fa))) (hS : S fa = some (spOwn m)) (h : Gv te σ H (fun w H2 => ∃ p, w = .ref p ∧ QH H2 p qs)) (W : WellQ qs) (h0 : ∀ r ∈ qs, 0 ≤ r.2.1) : EvTold m qs (tCallA i S (tCons te tNil)) σ H := fun H1 e Q q => by
  refine ⟨fa, spOwn m, hi, hS, ?_⟩
  refine h H1 e _ fun w H2 e2 ⟨p, hw, hq⟩ => ?_
  subst hw
  cases m
  · exact ⟨p, qs, rfl, hq, W, h0, fun d f H' hd e3 hl hd' => q d f H' (fresh_back e2 hd) (e2.trans e3) hl hd'⟩
  · exact ⟨p, qs, rfl, hq, W, fun d f H' hd e3 hl hd' => q d f H' (fresh_back e2 hd) (e2.trans e3) hl hd'⟩
/-- min(many, held(x, told)[house]) -/
theorem ev_come {qs : List (Row Str)} {a t : Addr} {f : Str → Nat} {r0 : Row Str} {many k : Nat} (hm : Ev tc σ H (.int (many : Nat))) (h1 : Ev ta σ H (.ref a)) (h2 : Ev tb σ H (.ref t)) (hh : Ev ty σ H (.str r0.1)) (hq : QH H a qs) (W : WellQ qs) (ht : H t = some (.dK (tolK qs f))) (hw : KQ.Within qs f) (hr : r0 ∈ qs) (hk : (k : Int) = min (many : Int) (held qs (cashF qs) f r0)) :
    Ev (tCB rMin2 (tCons tc (tCons (tDGet (tCall spHeldL [] E0 (tCons ta (tCons tb tNil))) ty) tNil))) σ H (.int (k : Nat)) := fun H1 e Q q => by
  refine hm H1 e _ fun H2 e2 => ?_
  refine ed_dget (k := Sum.inr r0.1) (ed_heldL (ea_cons h1 (ea_cons h2 ea_nil)) hq W ht hw) hh (dI_at W.nd hr) H2 (e.trans e2) _ fun H3 e3 => ⟨_, _, rfl, ?_⟩
  rw [show (if held qs (cashF qs) f r0 < (many : Int) then held qs (cashF qs) f r0 else (many : Int)) = ((k : Nat) : Int) by rw [hk]; split <;> omega]
  exact q H3 (e2.trans e3)
theorem est_stateL {a t : Addr} {qs : List (Row Str)} {kvs : List (Key × V)} {f : Str → Nat} (h : EvA tr σ H [.ref a, .ref t]) (hq : QH H a qs) (l40 : qs.length ≤ 40) (ht : H t = some (.dK kvs)) (hv : ∀ r ∈ qs, valV kvs (Sum.inr r.1) = some (.int (f r.1 : Nat))) : EvSt qs f (tCall spStateL [] E0 tr) σ H := fun H1 e Q q => by
  refine h H1 e _ fun H2 e2 => ?_
  rw [List.append_nil]
  exact ⟨a, t, qs, kvs, f, rfl, hq.tx (TX.of (e.trans e2)), l40, (e.trans e2) _ _ ht, hv, fun p H' hp e3 hst => q p H' (e2.trans e3) hst⟩
theorem flow_true {qs : List (Row Str)} {f g : Str → Nat} : flowB qs f g = true ↔ KQ.EqOn qs f g := by
  unfold flowB
  rw [decide_eq_true_eq, stI_eq]
/-- work(x) != a state that is it -/
theorem ev_workSame {m : Bool} {i : Nat} {fa a : Addr} {S : Addr → Option Sp} {qs : List (Row Str)} {f : Str → Nat} (hi : σ[i]? = some (some (.ref fa))) (hS : S fa = some (spWork m)) (h : Ev ta σ H (.ref a)) (hq : QH H a qs) (G : GoodQ qs) (h2 : EvSt qs f tb σ H) (ho : Opt m qs (cashF qs) f) :
    Ev (tOp (rNeD K) (tCallA i S (tCons ta tNil)) tb) σ H (.bl false) := fun H1 e Q q => by
  have fin : ∀ (g : Str → Nat) s H2, Opt m qs (cashF qs) g → Ex H1 H2 → StH H2 s qs g → tb σ H2 fun y H3 => rNeD K (.ref s) y H3 Q := fun g s H2 hg e2 hs => by
    refine h2 H2 (e.trans e2) _ fun p H3 e3 hp => ?_
    refine ⟨_, _, dp_stT (e3 _ _ hs), dp_stT hp, shaped_intsT _, shaped_intsT _, ?_⟩
    rw [eqv_intsT, decide_eq_true (stI_eq.mpr (hg.eq ho))]
    exact q H3 (e2.trans e3)
  refine ⟨fa, spWork m, hi, hS, ?_⟩
  refine h H1 e _ fun H2 e2 => ?_
  cases m
  · exact ⟨a, qs, rfl, hq.tx (TX.of (e.trans e2)), G, fun g s H3 hg e3 hs => fin g s H3 hg (e2.trans e3) hs⟩
  · exact ⟨a, qs, rfl, hq.tx (TX.of (e.trans e2)), G, fun g s H3 hg e3 hs => fin g s H3 hg (e2.trans e3) hs⟩
/-- gridlock_paper(x)[0] -/
theorem ev_grid {qs : List (Row Str)} {f g : Str → Nat} (h : Gv te σ H (fun w H2 => ∃ p, w = .ref p ∧ QH H2 p qs)) (G : GoodQ qs) (hf : KQ.Least qs (cashF qs) f) (hg : KQ.Great qs (cashF qs) g) : Ev (tOp (rIxT K) (tCall spGrid [] E0 (tCons te tNil)) (tC (.int 0))) σ H (.str (wordS (flowB qs f g))) := fun H1 e Q q => by
  refine h H1 e _ fun w H2 e2 ⟨p, hw, hq⟩ => ?_
  subst hw
  refine ⟨p, qs, rfl, hq, G, fun f1 g1 pp x y H3 l1 g1' e3 hp => ⟨pp, [.str (wordS (flowB qs f1 g1)), x, y], 0, .str (wordS (flowB qs f1 g1)), rfl, rfl, st_of hp, at_of (j := 0) rfl rfl, ?_⟩⟩
  have e1 : flowB qs f1 g1 = flowB qs f g := by
    rw [Bool.eq_iff_iff, flow_true, flow_true]
    have a1 := KQ.least_eq l1 hf
    have a2 := KQ.great_eq g1' hg
    constructor
    · intro h r hr
      rw [← a1 r hr, ← a2 r hr]
      exact h r hr
    · intro h r hr
      rw [a1 r hr, a2 r hr]
      exact h r hr
  rw [e1]
  exact q H3 (e2.trans e3)
/-- needed_cash(..), its goal a new state -/
theorem gv_need {a : Addr} {qs : List (Row Str)} {r : Row Str} {f : Str → Nat} (h1 : Ev ta σ H (.ref a)) (h2 : Ev tb σ H (.str r.1)) (h3 : EvSt qs f tc σ H) (hq : QH H a qs) (G : GoodQ qs) (hm : r ∈ qs) (hw : KQ.Within qs f) :
    Gv (tCall spNeed [] E0 (tCons ta (tCons tb (tCons tc tNil)))) σ H (fun v _ => ∃ o, v = optV o ∧ KQ.Need qs (cashF qs) r.1 f o) := fun H1 e Q q => by
  refine h1 H1 e _ fun H2 e2 => h2 H2 (e.trans e2) _ fun H3 e3 => h3 H3 ((e.trans e2).trans e3) _ fun p H4 e4 hp => ?_
  have e14 := (e2.trans e3).trans e4
  exact ⟨a, p, qs, r, f, rfl, hq.tx (TX.of (e.trans e14)), G, hm, hp, hw, fun v H5 hn e5 => q _ H5 (e14.trans e5) ⟨v, rfl, hn⟩⟩
theorem ev_neNeed {P1 P2 : Option Int → Prop} (h1 : Gv ta σ H (fun v _ => ∃ o, v = optV o ∧ P1 o)) (h2 : Gv tb σ H (fun v _ => ∃ o, v = optV o ∧ P2 o)) (he : ∀ v w, P1 v → P2 w → v = w) : Ev (tOp rNe ta tb) σ H (.bl false) := fun H1 e Q q => by
  refine h1 H1 e _ fun v H2 e2 ⟨o, hv, p1⟩ => h2 H2 (e.trans e2) _ fun w H3 e3 ⟨o2, hw, p2⟩ => ?_
  subst hv
  subst hw
  have := he o o2 p1 p2
  subst this
  refine ⟨by cases o <;> rfl, ?_⟩
  rw [decide_eq_true rfl]
  exact q H3 (e2.trans e3)
/-- run_out(x) == paid -/
theorem ev_ranAll {qs : List (Row Str)} {f g : Str → Nat} {pd : Addr} (h : EvTold true qs ta σ H) (h2 : Ev tb σ H (.ref pd)) (hp : H pd = some (.dK (tolK qs g))) (nd : (names qs).Nodup) (hf : KQ.Least qs (cashF qs) f) {b : Bool} (hb : (∀ r ∈ qs, f r.1 = g r.1) ↔ b = true) : Ev (tOp rEqDI ta tb) σ H (.bl b) := fun H1 e Q q => by
  refine h H1 e _ fun p f1 H2 hp0 e2 hl hp1 => h2 H2 (e.trans e2) _ fun H3 e3 => ?_
  refine ⟨p, pd, tolK qs f1, tolK qs g, rfl, rfl, e3 _ _ hp1, ((e.trans e2).trans e3) _ _ hp, by rw [dI_len, dI_len], fun kv hkv => ?_, ?_⟩
  · obtain ⟨r, hr, rfl⟩ := List.mem_map.mp hkv
    exact ⟨_, _, rfl, dI_at nd hr⟩
  · have e1 : ((tolK qs f1).all fun p => decide (valV (tolK qs g) p.1 = some p.2)) = b := by
      rw [Bool.eq_iff_iff, ← hb, List.all_eq_true]
      constructor
      · intro h r hr
        have h1 := of_decide_eq_true (h _ (List.mem_map.mpr ⟨r, hr, rfl⟩))
        rw [dI_at nd hr] at h1
        have h2 : ((g r.1 : Nat) : Int) = ((f1 r.1 : Nat) : Int) := V.int.inj (Option.some.inj h1)
        have h3 := KQ.least_eq hl hf r hr
        omega
      · intro h kv hkv
        obtain ⟨r, hr, rfl⟩ := List.mem_map.mp hkv
        refine decide_eq_true ?_
        rw [dI_at nd hr]
        show some (V.int (g r.1 : Nat)) = some (V.int (f1 r.1 : Nat))
        rw [← h r hr, KQ.least_eq hl hf r hr]
    rw [e1]
    exact q H3 (e2.trans e3)
/-- [a, b] == ['flows', 'flows'] -/
theorem eqv_words (b1 b2 : Bool) : PyData.eqv (.list [.str (wordS b1), .str (wordS b2)]) (.list [.str "flows", .str "flows"]) = (b1 && b2) := by
  cases b1 <;> cases b2 <;> decide +kernel
theorem ev_words {p : Addr} {b1 b2 : Bool} (h : Ev ta σ H (.ref p)) (hp : H p = some (.lst [.str (wordS b1), .str (wordS b2)])) : Ev (tOp (rEqD K) ta (tLst (tCons (tC (.str "flows")) (tCons (tC (.str "flows")) tNil)))) σ H (.bl (b1 && b2)) := fun H1 e Q q => by
  refine h H1 e _ fun H2 e2 => ?_
  refine ⟨by show 2 ≤ sizeLine; decide, fun n hn => ?_⟩
  have x1 : Ex H2 (L2.upd H2 n (.lst [.str "flows", .str "flows"])) := Ex.new hn
  refine ⟨.list [.str (wordS b1), .str (wordS b2)], .list [.str "flows", .str "flows"], .lst (sq_of (((e.trans e2).trans x1) _ _ hp)) (.cons (.str _) (.cons (.str _) .nil)), .lst (sq_of upd_same) (.cons (.str _) (.cons (.str _) .nil)), by cases b1 <;> cases b2 <;> decide +kernel, by decide +kernel, ?_⟩
  rw [eqv_words]
  exact q _ (e2.trans x1)
/-- the law's draw stands at another name -/
theorem do_pickL' {i : Nat} {a l c : Addr} {N : Nat} {xs : List V} {E : XK} (h0 : σ[i]? = some (some (.ref a))) (hv : EvL te σ H xs) (hD : Dr a l c N H) (hN : N < 1000000) (h1 : 0 < xs.length) (h2 : xs.length < 100000) {Q : VK}
    (q : ∀ x H2, x ∈ xs → Dr a l c (N + 1) H2 → ExD a l H H2 → Q x H2) : tCall spPick [] E (tCons (tVar i) (tCons te tNil)) σ H Q :=
  ⟨.ref a, h0, hv H (Ex.refl H) _ fun p H1 hp e1 hp1 => by
    have nf := hD.fresh hp
    exact ⟨a, l, c, N, .ref p, xs, rfl, hD.mono e1, hN, Or.inl ⟨p, rfl, Or.inl hp1, nf.1, nf.2.1⟩, h1, h2, fun x H2 hx d e => q x H2 hx d ((ExD.of e1).trans e)⟩⟩
theorem do_lists {i : Nat} {a l c : Addr} {N : Nat} {ns : List Str} {E : XK} (h0 : σ[i]? = some (some (.ref a))) (hv : EvL te σ H (ns.map V.str)) (hD : Dr a l c N H) (hN : N + 3000 < 1000000) (nd : ns.Nodup) (hg : ∀ z ∈ ns, GoodN z ∧ PyData.strOk z = true) (n2 : 2 ≤ ns.length) (n20 : ns.length ≤ 20) {Q : VK}
    (q : ∀ p qs H2, GoodQ qs → (names qs).Perm ns → (∀ r ∈ qs, r.2.2.length ≤ 4 ∧ r.2.1 ≤ 6 ∧ ∀ x ∈ r.2.2, x.2 ≤ 4) → QH H2 p qs → Dr a l c (N + 400) H2 → ExD a l H H2 → Q (.ref p) H2) :
    tCall spLists [] E (tCons (tVar i) (tCons te (tCons (tC (.int 4)) (tCons (tC (.int 4)) tNil)))) σ H Q :=
  ⟨.ref a, h0, hv H (Ex.refl H) _ fun p H1 hp e1 hp1 => by
    have nf := hD.fresh hp
    exact ⟨a, l, c, N, p, ns, 4, 4, rfl, hD.mono e1, hN, hp1, nf.2.1, nd, hg, n2, n20, by decide, by decide, by decide, fun p qs H2 g hper hb hq d e => q p qs H2 g hper hb hq d ((ExD.of e1).trans e)⟩⟩
end
end NQ
namespace NQ
open PySem PySem.Spec PyProof.Rows L2 Evl
open KQ (Row held linkRow Linked Opt addC setC comb mc)
/-- all but one thing stands -/
def ExM (c : Addr) (H H' : Hp) : Prop := ∀ b o, H b = some o → b ≠ c → H' b = some o
theorem ExM.of {c : Addr} {H H' : Hp} (e : Ex H H') : ExM c H H' := fun b o h _ => e b o h
theorem ExM.trans {c : Addr} {H H1 H2 : Hp} (x : ExM c H H1) (y : ExM c H1 H2) : ExM c H H2 := fun b o h n => y b o (x b o h n) n
theorem ExM.upd {c : Addr} {H : Hp} {o : HO} : ExM c H (L2.upd H c o) := fun b u h n => by rw [upd_ne n]; exact h
theorem ExM.tx {c : Addr} {H H' : Hp} {xs : List V} (e : ExM c H H') (hc : H c = some (.lst xs)) : TX H H' := fun b ys h => e b _ h (ne_of h hc (by intro z; cases z))
theorem ExM.ex {c : Addr} {H H1 H2 : Hp} (e1 : Ex H H1) (e : ExM c H1 H2) (hc : H c = none) : Ex H H2 := fun b o h => e b o (e1 b o h) (ne_of_none h hc)
def tWork (K : PySem.W.Frag) (SO SW : Addr → Option Sp) : TS :=
  tSeq (tAsg (tCallA 15 SO (tCons (tVar 4) tNil)) (gName 16))
    (tSeq (tDrop (tBM K "list" rAppend (tVar 13) (tCons (tCB rMin2 (tCons (tVar 8) (tCons (tDGet (tCall spHeldL [] E0 (tCons (tVar 4) (tCons (tVar 16) tNil))) (tVar 6)) tNil))) tNil)))
    (tSeq (tAsg (tCallA 15 SO (tCons (tCall spMore [] E0 (tCons (tVar 5) (tCons (tVar 7) (tCons (tOp (rIxL K) (tVar 13) (tUn (rU fun i => .int (-i)) (tC (.int 1)))) tNil)))) tNil)) (gName 17))
    (tSeq (tDrop (tBM K "dict" rDUpd (tVar 17) (tCons (tVar 16) tNil)))
    (tSeq (sDPut (tVar 17) (tVar 6) (tOp (rIxL K) (tVar 13) (tUn (rU fun i => .int (-i)) (tC (.int 1)))))
    (tIfS (tTest (tOp (rNeD K) (tCallA 14 SW (tCons (tVar 12) tNil)) (tCall spStateL [] E0 (tCons (tVar 12) (tCons (tVar 17) tNil))))) (tRet (tC (.bl false))) tNext)))))
/-- what the law has made so far -/
structure LapH (H : Hp) (a1 a2 ab : Addr) (one other B : List (Row Str)) : Prop where
  q1 : QH H a1 one
  q2 : QH H a2 other
  qB : QH H ab B
theorem LapH.tx {H H' : Hp} {a1 a2 ab : Addr} {one other B : List (Row Str)} (h : LapH H a1 a2 ab one other B) (e : TX H H') : LapH H' a1 a2 ab one other B := ⟨h.q1.tx e, h.q2.tx e, h.qB.tx e⟩
theorem at_last {xs : List V} {x : V} : atI (xs ++ [x]) (-1) = some x := by
  unfold atI ixN
  rw [if_neg (by decide), List.length_append, List.length_singleton, if_pos (by omega)]
  show (xs ++ [x])[(-1 + ((xs.length + 1 : Nat) : Int)).toNat]? = some x
  rw [show (-1 + ((xs.length + 1 : Nat) : Int)).toNat = xs.length by omega]
  simp
theorem merge_get {acc : List (Key × V)} {k : Key} {v : V} {kvs : List (Key × V)} (nd : (kvs.map (·.1)).Nodup) (h : (k, v) ∈ kvs) : valV (mergeK acc kvs) k = some v := by
  obtain ⟨i, hi⟩ := List.mem_iff_getElem?.mp h
  exact valV_merge_get nd hi
section
variable {one other B : List (Row Str)} {house goal : Str} {many : Nat} {r0 : Row Str}
theorem LapF.nd (F : LapF one other B house goal many r0) : (names one).Nodup := asc_nodup F.g1.asc
/-- what told holds behind update and store -/
theorem LapF.told (F : LapF one other B house goal many r0) {f1 f2 : Str → Nat} {k : Nat} : ∀ R ∈ B, valV (putK (mergeK (tolK (addcash goal (k : Int) other) f2) (tolK one f1)) (Sum.inr house) (.int (k : Nat))) (Sum.inr R.1) = some (.int ((comb other house f1 k f2) R.1 : Nat)) := fun R hR => by
  rw [valV_put]
  rcases F.L.mem.mp hR with ⟨r, hr, rfl⟩ | h
  · rw [KQ.link_name]
    by_cases e : r.1 = house
    · rw [if_pos (by rw [e]), e, F.L.combH]
    · rw [if_neg fun z => e (Sum.inr.inj z), F.L.comb1 hr e]
      exact merge_get (dI_nodup F.nd) (List.mem_map.mpr ⟨r, hr, rfl⟩)
  · have ne : R.1 ≠ house := fun z => F.L.dis r0 F.L.hr R h (by rw [F.L.hn, z])
    rw [if_neg fun z => ne (Sum.inr.inj z), KQ.comb2 h]
    have nin : (Sum.inr R.1 : Key) ∉ (tolK one f1).map (·.1) := fun hm => by
      rw [dI_keys] at hm
      obtain ⟨y, hy, e⟩ := List.mem_map.mp hm
      obtain ⟨r, hr, hn⟩ := mem_name hy
      exact F.L.dis r hr R h (by rw [hn]; exact Sum.inr.inj e)
    rw [valV_merge_not nin, add_mc, mc_tolK]
    exact dI_at (asc_nodup F.g2.asc) h
end
section
variable {K : PySem.W.Frag} {σ : L2.St} {H H' : Hp} {ta tb tc te td ty tl : TE} {t u tt : TT} {x y z v : V} {tr : TA} {D : Ends} {tz tu : TS}
theorem q_asgT {i : Nat} {m : Bool} {qs : List (Row Str)} (h : EvTold m qs te σ H) (k : ∀ p f H1, H p = none → Ex H H1 → Opt m qs (cashF qs) f → H1 p = some (.dK (tolK qs f)) → tz D (σ.set i (some (.ref p))) H1) : tSeq (tAsg te (gName i)) tz D σ H := h H (Ex.refl H) _ fun p f H1 hp e ho hp1 => k p f H1 hp e ho hp1
/-- d.update(e) -/
theorem q_upd {d e' : Addr} {ks ls : List (Key × V)} (hd : H d = some (.dK ks)) (he : H e' = some (.dK ls)) (ne : d ≠ e') (hl : ks.length + ls.length ≤ 1000) (h1 : Ev ta σ H (.ref d)) (h2 : Ev tb σ H (.ref e')) (k : ∀ H1, Ex H H1 → tz D σ (L2.upd H1 d (.dK (mergeK ks ls)))) :
    tSeq (tDrop (tBM K "dict" rDUpd ta (tCons tb tNil))) tz D σ H := by
  refine h1 H (Ex.refl H) _ fun H1 e1 => ?_
  refine ⟨Or.inr (Or.inr (Or.inl ⟨rfl, Or.inl ⟨ks, e1 _ _ hd⟩⟩)), ?_⟩
  refine h2 H1 e1 _ fun H2 e2 => ⟨d, e', ks, ls, rfl, rfl, ne, (e1.trans e2) _ _ hd, (e1.trans e2) _ _ he, Nat.le_trans hl (by decide), k H2 (e1.trans e2)⟩
theorem gv_link {a1 a2 : Addr} {one other : List (Row Str)} {house goal : Str} {many : Nat} (h : EvA tr σ H [.ref a1, .ref a2, .str house, .str goal, .int (many : Nat)]) (hq1 : QH H a1 one) (hq2 : QH H a2 other) (m1 : 1 ≤ many) (m60 : many ≤ 60) (l40 : one.length + other.length ≤ 40) (nd : (names one ++ names other).Nodup) :
    Gv (tCall spLink [] E0 tr) σ H (fun v H2 => ∃ p B, v = .ref p ∧ B.Perm (one.map (linkRow house goal many) ++ other) ∧ AscS (names B) ∧ QH H2 p B) := fun H1 e Q q => by
  refine h H1 e _ fun H2 e2 => ?_
  rw [List.append_nil]
  exact ⟨a1, a2, one, other, house, goal, many, rfl, hq1.tx (TX.of (e.trans e2)), hq2.tx (TX.of (e.trans e2)), m1, m60, l40, nd, fun p B H3 e3 hp ha hq => q _ H3 (e2.trans e3) ⟨p, B, rfl, hp, ha, hq⟩⟩
theorem el_front3 {zs : List Str} {p : Addr} (h : Ev te σ H (.ref p)) (hp : H p = some (.lst (zs.map V.str))) : EvL (tSl (rSlL K) te tNoPart (tPart (tC (.int 3)))) σ H ((zs.take 3).map V.str) := by
  have := el_sl (K := K) (σ := σ) (H := H) (te := te) h eo_none (eo_some (ev_c (v := .int ((3 : Nat) : Int)))) (sq_of hp)
  rw [cut_front, ← List.map_take] at this
  exact this
theorem el_back3 {zs : List Str} {p : Addr} (h : Ev te σ H (.ref p)) (hp : H p = some (.lst (zs.map V.str))) : EvL (tSl (rSlL K) te (tPart (tC (.int 3))) tNoPart) σ H ((zs.drop 3).map V.str) := by
  have := el_sl (K := K) (σ := σ) (H := H) (te := te) h (eo_some (ev_c (v := .int ((3 : Nat) : Int)))) eo_none (sq_of hp)
  rw [cut_back, ← List.map_drop] at this
  exact this
end

section
variable {K : PySem.W.Frag} {D : Ends} {s a a1 a2 ab cm fw fo : Addr} {y2 y3 y9 y10 y11 y16 y17 y18 y19 y20 y21 y22 y23 y24 y25 y26 y27 : Option V} {one other B : List (Row Str)} {house goal : Str} {many : Nat} {r0 : Row Str} {H : Hp}
theorem work_lap {SO SW : Addr → Option Sp} {m : Bool} {cs : List V} (F : LapF one other B house goal many r0) (L : LapH H a1 a2 ab one other B) (hcm : H cm = some (.lst cs)) (hcl : cs.length ≤ 10) (hSO : SO fo = some (spOwn m)) (hSW : SW fw = some (spWork m))
    (k : ∀ (f1 f2 : Str → Nat) (kk : Nat) (y16 y17 : Option V) H', Opt m one (cashF one) f1 → kk ≤ 8 → (kk : Int) = min (many : Int) (held one (cashF B) f1 r0) → Opt m (addcash goal (kk : Int) other) (cashF (addcash goal (kk : Int) other)) f2 → ExM cm H H' → H' cm = some (.lst (cs ++ [.int (kk : Nat)])) → D.nx [some (.ref s), some (.ref a), y2, y3, some (.ref a1), some (.ref a2), some (.str house), some (.str goal), some (.int (many : Nat)), y9, y10, y11, some (.ref ab), some (.ref cm), some (.ref fw), some (.ref fo), y16, y17, y18, y19, y20, y21, y22, y23, y24, y25, y26, y27] H') :
    tWork K SO SW D [some (.ref s), some (.ref a), y2, y3, some (.ref a1), some (.ref a2), some (.str house), some (.str goal), some (.int (many : Nat)), y9, y10, y11, some (.ref ab), some (.ref cm), some (.ref fw), some (.ref fo), y16, y17, y18, y19, y20, y21, y22, y23, y24, y25, y26, y27] H := by
  have W1 := F.g1.well
  have nd := W1.nd
  refine q_asgT (told_own (m := m) (i := 15) rfl hSO (gv_q (ev_var (i := 4) rfl) L.q1) W1 F.g1.c0) fun p1 f1 H1 hp10 e1 ho1 hp1 => ?_
  obtain ⟨kk, hkk, k8⟩ := F.come f1
  have hcm1 := e1 _ _ hcm
  have L1 := L.tx (TX.of e1)
  have ewf := ho1.within
  refine q_app (K := K) (σ := [some (.ref s), some (.ref a), y2, y3, some (.ref a1), some (.ref a2), some (.str house), some (.str goal), some (.int (many : Nat)), y9, y10, y11, some (.ref ab), some (.ref cm), some (.ref fw), some (.ref fo), some (.ref p1), y17, y18, y19, y20, y21, y22, y23, y24, y25, y26, y27]) hcm1 (ev_var (i := 13) rfl) (ev_come (k := kk) (r0 := r0) (ev_var (i := 8) rfl) (ev_var (i := 4) rfl) (ev_var (i := 16) rfl) (ev_is (ev_var (i := 6) rfl) (by rw [F.L.hn])) L1.q1 W1 hp1 ewf F.L.hr (by rw [F.heldB]; exact hkk)) (by omega) fun H2 e2 => ?_
  have x2 : ExM cm H (upd H2 cm (.lst (cs ++ [.int (kk : Nat)]))) := (ExM.of (e1.trans e2)).trans ExM.upd
  have hcm2 : (upd H2 cm (.lst (cs ++ [.int (kk : Nat)]))) cm = some (.lst (cs ++ [.int (kk : Nat)])) := upd_same
  have n1 : p1 ≠ cm := (ne_of_none hcm hp10).symm
  have hp12 : (upd H2 cm (.lst (cs ++ [.int (kk : Nat)]))) p1 = some (.dK (tolK one f1)) := by
    rw [upd_ne n1]
    exact e2 _ _ hp1
  generalize upd H2 cm (.lst (cs ++ [.int (kk : Nat)])) = H3 at x2 hcm2 hp12
  have L3 := L.tx (x2.tx hcm)
  have gM := F.goodMore k8
  have hlast : ∀ {z : L2.St} {H4 : Hp}, z[13]? = some (some (.ref cm)) → Ex H3 H4 → Ev (tOp (rIxL K) (tVar 13) (tUn (rU fun i => .int (-i)) (tC (.int 1)))) z H4 (.int (kk : Nat)) := fun hz e => ev_op (ev_var hz) (ev_un ev_c ru_neg) (rv_ixL (sq_of (e _ _ hcm2)) at_last)
  -- told
  refine q_asgT (σ := [some (.ref s), some (.ref a), y2, y3, some (.ref a1), some (.ref a2), some (.str house), some (.str goal), some (.int (many : Nat)), y9, y10, y11, some (.ref ab), some (.ref cm), some (.ref fw), some (.ref fo), some (.ref p1), y17, y18, y19, y20, y21, y22, y23, y24, y25, y26, y27]) (told_own (m := m) (i := 15) rfl hSO (gv_more (ea_cons (ev_var (i := 5) rfl) (ea_cons (ev_var (i := 7) rfl) (ea_cons (hlast rfl (Ex.refl _)) ea_nil))) L3.q2 F.g2.l40) gM.well gM.c0) fun p2 f2 H4 hp20 e4 ho2 hp2 => ?_
  have n2 : p2 ≠ p1 := (ne_of_none hp12 hp20).symm
  have l1 := F.l1
  have l2 := F.l2
  have la : (addcash goal (kk : Int) other).length = other.length := List.length_map ..
  refine q_upd (K := K) (σ := [some (.ref s), some (.ref a), y2, y3, some (.ref a1), some (.ref a2), some (.str house), some (.str goal), some (.int (many : Nat)), y9, y10, y11, some (.ref ab), some (.ref cm), some (.ref fw), some (.ref fo), some (.ref p1), some (.ref p2), y18, y19, y20, y21, y22, y23, y24, y25, y26, y27]) hp2 (e4 _ _ hp12) n2 (by rw [dI_len, dI_len, la]; omega) (ev_var (i := 17) rfl) (ev_var (i := 16) rfl) fun H5 e5 => ?_
  have hp25 : (upd H5 p2 (.dK (mergeK (tolK (addcash goal (kk : Int) other) f2) (tolK one f1)))) p2 = some (.dK (mergeK (tolK (addcash goal (kk : Int) other) f2) (tolK one f1))) := upd_same
  have x5 : Ex H3 (upd H5 p2 (.dK (mergeK (tolK (addcash goal (kk : Int) other) f2) (tolK one f1)))) := Ex.mut (e4.trans e5) hp20
  generalize upd H5 p2 (.dK (mergeK (tolK (addcash goal (kk : Int) other) f2) (tolK one f1))) = H6 at hp25 x5
  have hml : (mergeK (tolK (addcash goal (kk : Int) other) f2) (tolK one f1)).length ≤ 40 := by
    have := length_mergeK (tolK one f1) (tolK (addcash goal (kk : Int) other) f2)
    rw [dI_len, dI_len, la] at this
    omega
  have tld := F.told (f1 := f1) (f2 := f2) (k := kk)
  generalize mergeK (tolK (addcash goal (kk : Int) other) f2) (tolK one f1) = mk at hp25 hml tld
  refine q_dput (σ := [some (.ref s), some (.ref a), y2, y3, some (.ref a1), some (.ref a2), some (.str house), some (.str goal), some (.int (many : Nat)), y9, y10, y11, some (.ref ab), some (.ref cm), some (.ref fw), some (.ref fo), some (.ref p1), some (.ref p2), y18, y19, y20, y21, y22, y23, y24, y25, y26, y27]) (a := p2) (k := Sum.inr house) (v := .int (kk : Nat)) (hlast rfl x5) (ev_var (i := 17) rfl) (ev_var (i := 6) rfl) fun H7 e7 => ⟨_, e7 _ _ hp25, small1000 (by omega), ?_⟩
  have x7 : Ex H3 (upd H7 p2 (.dK (putK mk (Sum.inr house) (.int (kk : Nat))))) := Ex.mut (x5.trans e7) hp20
  have hp27 : (upd H7 p2 (.dK (putK mk (Sum.inr house) (.int (kk : Nat))))) p2 = some (.dK (putK mk (Sum.inr house) (.int (kk : Nat)))) := upd_same
  generalize upd H7 p2 (.dK (putK mk (Sum.inr house) (.int (kk : Nat)))) = H8 at x7 hp27
  have L8 := L3.tx (TX.of x7)
  refine s_when (σ := [some (.ref s), some (.ref a), y2, y3, some (.ref a1), some (.ref a2), some (.str house), some (.str goal), some (.int (many : Nat)), y9, y10, y11, some (.ref ab), some (.ref cm), some (.ref fw), some (.ref fo), some (.ref p1), some (.ref p2), y18, y19, y20, y21, y22, y23, y24, y25, y26, y27]) (b := false) (et_test (ev_workSame (K := K) (m := m) (i := 14) (f := comb other house f1 kk f2) rfl hSW (ev_var (i := 12) rfl) L8.qB F.gB (est_stateL (ea_cons (ev_var (i := 12) rfl) (ea_cons (ev_var (i := 17) rfl) ea_nil)) L8.qB F.gB.l40 hp27 tld) (F.L.opt (F.opt1 ho1) hkk (F.opt2 ho2)))) (fun z => by cases z) fun _ H9 e9 => ?_
  exact k f1 f2 kk _ _ H9 ho1 k8 hkk ho2 (x2.trans (ExM.of (x7.trans e9))) ((x7.trans e9) _ _ hcm2)
end

end NQ
namespace NQ
open PySem PySem.Spec PyProof.Rows L2 Evl
open KQ (Row held linkRow Linked Opt addC setC comb mc)
theorem reach_congr {qs : List (Row Str)} {c d : Str → Int} {f g : Str → Nat} (hc : ∀ r ∈ qs, c r.1 = d r.1) (hg : ∀ r ∈ qs, f r.1 = g r.1) : KQ.Reach qs c f ↔ KQ.Reach qs d g := by
  have key : ∀ {c d : Str → Int} {f g : Str → Nat}, (∀ r ∈ qs, c r.1 = d r.1) → (∀ r ∈ qs, f r.1 = g r.1) → KQ.Reach qs c f → KQ.Reach qs d g := fun hc hg h k wk sk r hr => by
    rw [← hg r hr]
    exact h k wk (KQ.stable_less (fun q hq => Int.le_of_eq (hc q hq)) sk) r hr
  exact ⟨key hc hg, key (fun r hr => (hc r hr).symm) (fun r hr => (hg r hr).symm)⟩
theorem setC_congr {c d : Str → Int} {z : Str} {v : Int} {y : Str} (h : c y = d y) : setC c z v y = setC d z v y := by
  unfold KQ.setC
  rw [h]
section
variable {K : PySem.W.Frag} {σ : L2.St} {H H' : Hp} {ta tb tc te td ty tl : TE} {t u tt : TT} {x y z v : V} {tr : TA} {D : Ends} {tz tu : TS}
theorem ev_min2 {i j : Int} (ha : Ev ta σ H (.int i)) (hb : Ev tb σ H (.int j)) : Ev (tCB rMin2 (tCons ta (tCons tb tNil))) σ H (.int (if j < i then j else i)) := fun H1 e Q q => ha H1 e _ fun H2 e2 => hb H2 (e.trans e2) _ fun H3 e3 => ⟨i, j, rfl, q H3 (e2.trans e3)⟩
theorem gv_lst2 {Pv : V → Hp → Prop} (ha : Ev ta σ H x) (hb : Gv tb σ H Pv) : Gv (tLst (tCons ta (tCons tb tNil))) σ H (fun w H2 => ∃ p v H1, w = .ref p ∧ Pv v H1 ∧ H2 p = some (.lst [x, v])) := fun H1 e Q q =>
  ha H1 e _ fun H2 e2 => hb H2 (e.trans e2) _ fun v H3 e3 hv => ⟨by show 2 ≤ sizeLine; decide, fun p hp => q _ _ ((e2.trans e3).trans (Ex.new hp)) ⟨p, v, H3, rfl, hv, upd_same⟩⟩
theorem gv_grid {qs : List (Row Str)} (h : Gv te σ H (fun w H2 => ∃ p, w = .ref p ∧ QH H2 p qs)) (G : GoodQ qs) : Gv (tOp (rIxT K) (tCall spGrid [] E0 (tCons te tNil)) (tC (.int 0))) σ H (fun v _ => ∃ f g, v = .str (wordS (flowB qs f g)) ∧ KQ.Least qs (cashF qs) f ∧ KQ.Great qs (cashF qs) g) := fun H1 e Q q => by
  refine h H1 e _ fun w H2 e2 ⟨p, hw, hq⟩ => ?_
  subst hw
  exact ⟨p, qs, rfl, hq, G, fun f1 g1 pp x y H3 l1 g1' e3 hp => ⟨pp, [.str (wordS (flowB qs f1 g1)), x, y], 0, .str (wordS (flowB qs f1 g1)), rfl, rfl, st_of hp, at_of (j := 0) rfl rfl, q _ H3 (e2.trans e3) ⟨f1, g1, rfl, l1, g1'⟩⟩⟩
/-- [name for name in names[:3] if name != house] -/
theorem el_others {zs : List Str} {house : Str} {i j : Nat} (h : EvL tl σ H (zs.map V.str)) (hz : zs.length ≤ 100) (hj : j < σ.length) (hij : i ≠ j) (hi : σ[i]? = some (some (.str house))) (hw : ∀ x, wipe ((wipe σ [j]).set j (some x)) [j] = wipe σ [j]) (hwi : ∀ x : Option V, ((wipe σ [j]).set j x)[i]? = σ[i]?) :
    EvL (tLc (iList K tl) (gName j) (tTest (tOp rNe (tVar j) (tVar i))) (tVar j) [j]) σ H ((zs.filter fun z => !decide (z = house)).map V.str) := by
  have hget : ∀ x : V, ((wipe σ [j]).set j (some x))[j]? = some (some x) := fun x => by
    rw [List.getElem?_set_self]
    unfold wipe
    simp
    exact hj
  have key := el_lcNL (K := K) (te := tVar j) (t := tTest (tOp rNe (tVar j) (tVar i))) (σ := σ) (H := H) (j := j) (vs := [j]) (fun k => !decide (zs.getD k "" = house)) (fun k => V.str (zs.getD k "")) h (by rw [List.length_map]; omega) hw
    (fun k x H1 e1 hx => by
      obtain ⟨z, hz, rfl⟩ := map_at hx
      rw [show zs.getD k "" = z by rw [List.getD_eq_getElem?_getD, hz]; rfl]
      exact et_is (et_test (ev_op (ev_var (hget _)) (ev_var (by rw [hwi]; exact hi)) (rv_ne rfl))) (by rw [show decide (V.str z = V.str house) = decide (z = house) from decide_eq_decide.mpr (by rw [V.str.injEq])]))
    (fun k x H1 e1 hx _ => by
      obtain ⟨z, hz, rfl⟩ := map_at hx
      rw [show zs.getD k "" = z by rw [List.getD_eq_getElem?_getD, hz]; rfl]
      exact ev_var (hget _))
  rw [List.length_map, given_filter ("" : Str) (fun z => !decide (z = house)) V.str zs] at key
  exact key
/-- dict([(part[0], a draw up to len(part[2])) for part in one[1]]) -/
theorem do_aim {a l c b : Addr} {N i j : Nat} {qs : List (Row Str)} {ps : List Addr} (hi : σ[i]? = some (some (.ref a))) (hij : ∀ x : Option V, ((wipe σ [j]).set j x)[i]? = σ[i]?) (W : WellQ qs) (hD : Dr a l c N H) (hN : N + 100 < 1000000) (h : Ev tl σ H (.ref b)) (hb : H b = some (.tup (ps.map V.ref))) (hpr : Paired (RowH H) ps qs) (hj : j < σ.length) (hw : ∀ x, wipe ((wipe σ [j]).set j (some x)) [j] = wipe σ [j])
    {Q : VK} (q : ∀ p f H2, H p = none → ExD a l H H2 → Dr a l c (N + 40) H2 → KQ.Within qs f → H2 p = some (.dK (tolK qs f)) → Q (.ref p) H2) :
    (tCB (rDictL K) (tCons (tLc (iTup K tl) (gName j) tYes (tTup (tCons (tOp (rIxT K) (tVar j) (tC (.int 0))) (tCons (tCall spTake [] E0 (tCons (tVar i) (tCons (tOp (rI0 fun i j => .int (i + j)) (tCB (rLenS K) (tCons (tOp (rIxT K) (tVar j) (tC (.int 2))) tNil)) (tC (.int 1))) tNil))) tNil))) [j]) tNil)) σ H Q := by
  have l40 := W.l40
  have nd := W.nd
  have hlen : (ps.map V.ref).length = qs.length := by rw [List.length_map, paired_len hpr]
  have hget : ∀ x : V, ((wipe σ [j]).set j (some x))[j]? = some (some x) := fun x => by
    rw [List.getElem?_set_self]
    unfold wipe
    simp
    exact hj
  refine h H (Ex.refl H) _ fun H1 e1 => ?_
  have d1 := hD.mono e1
  refine ⟨b, rfl, ⟨_, st_of (e1 _ _ hb)⟩, fun Dl hDl => ?_⟩
  have nf := d1.fresh hDl
  refine lc_tup (xs := ps.map V.ref) (fun k H' => ∃ (ts : List Addr) (ks : List Nat), ts.length = k ∧ ks.length = k ∧ ExD a l H1 H' ∧ Dr a l c (N + k) H' ∧ H' Dl = some (.lst (ts.map V.ref)) ∧ ∀ (m : Nat) t n r, ts[m]? = some t → ks[m]? = some n → qs[m]? = some r → H' t = some (.tup [.str r.1, .int (n : Nat)]) ∧ n ≤ r.2.2.length)
    ⟨[], [], rfl, rfl, ExD.of (Ex.new hDl), d1.upd nf, upd_same, fun m t n r h => by simp at h⟩ (fun k H' _ p => ?_) (fun k x H' hx p => ?_) (fun H2 p => ?_)
  · obtain ⟨_, _, _, _, e, d, _⟩ := p
    exact st_of (d1.tx e _ _ (e1 _ _ hb))
  · obtain ⟨ts, ks, hts, hks, eH, dH, hDl', hall⟩ := p
    obtain ⟨p, r, rfl, _, hqr, q', hrow, ps', hp', hpr'⟩ := RowsH.at hpr hx
    have hk := (List.getElem?_eq_some_iff.mp hqr).1
    refine ⟨hw _, et_yes (σ := (wipe σ [j]).set j (some (V.ref p))) (H := H') H' (Ex.refl _) _ fun H3 e3 => ?_⟩
    rw [if_pos rfl]
    have tx3 : TX H H3 := (TX.of e1).trans ((d1.tx eH).trans (TX.of e3))
    refine ev_op (z := .str r.1) (H := H3) (ev_var (hget _)) ev_c (rv_ixT (K := K) (st_of (tx3 _ _ hrow)) (at_of (j := 0) rfl rfl)) H3 (Ex.refl _) _ fun H4 e4 => ?_
    have tx4 := tx3.trans (TX.of e4)
    have hl60 := W.len r (List.mem_of_getElem? hqr)
    refine do_take (H := H4) (size := (r.2.2.length : Int) + 1) (ea_cons (ev_var (by rw [hij]; exact hi)) (ea_cons (ev_add (ev_is (ev_lenT (K := K) (ev_op (ev_var (hget _)) ev_c (rv_ixT (K := K) (st_of (tx4 _ _ hrow)) (at_of (j := 2) rfl rfl))) (st_of (tx4 _ _ hp'))) (by rw [List.length_map, paired_len hpr'])) ev_c) ea_nil)) (dH.mono (e3.trans e4)) (by omega) (by omega) (by omega) (Ex.refl _) fun v H5 v0 v1 d5 e5 => ?_
    obtain ⟨n, rfl⟩ := Int.eq_ofNat_of_zero_le v0
    refine ⟨by show 2 ≤ sizeLine; decide, fun t ht => ?_⟩
    have x6 : ExD a l H' (L2.upd H5 t (.tup [.str r.1, .int (n : Nat)])) := ((ExD.of (e3.trans e4)).trans e5).trans (ExD.of (Ex.new ht))
    have d6 := d5.upd (p := t) (o := .tup [.str r.1, .int (n : Nat)]) (d5.fresh ht)
    have ht6 : (L2.upd H5 t (.tup [.str r.1, .int (n : Nat)])) t = some (.tup [.str r.1, .int (n : Nat)]) := upd_same
    generalize L2.upd H5 t (.tup [.str r.1, .int (n : Nat)]) = H6 at x6 d6 ht6
    have hD6 := x6 _ _ hDl' nf.1 nf.2.1
    refine ⟨_, hD6, sz_lt (by rw [List.length_map]; omega), ts ++ [t], ks ++ [n], by rw [List.length_append, hts]; rfl, by rw [List.length_append, hks]; rfl, (eH.trans x6).mut hDl, d6.upd nf, by rw [upd_same, List.map_append]; rfl, fun m t' n' r' h1 h2 h3 => ?_⟩
    rcases snoc_at hts h1 with ⟨hm, h1⟩ | ⟨rfl, rfl⟩
    · rcases snoc_at hks h2 with ⟨_, h2⟩ | ⟨hm2, _⟩
      · obtain ⟨g1, g2⟩ := hall m t' n' r' h1 h2 h3
        have g1' := dH.tx x6 _ _ g1
        refine ⟨?_, g2⟩
        rw [upd_ne (ne_of g1' hD6 (by intro z; cases z))]
        exact g1'
      · omega
    · rcases snoc_at hks h2 with ⟨hm2, _⟩ | ⟨_, rfl⟩
      · omega
      · rw [hqr] at h3
        cases h3
        refine ⟨?_, by omega⟩
        rw [upd_ne (ne_of ht6 hD6 (by intro z; cases z))]
        exact ht6
  · obtain ⟨ts, ks, hts, hks, eH, dH, hDl', hall⟩ := p
    rw [hlen] at hts hks dH
    let ff : Str → Nat := fun z => ks.getD ((names qs).idxOf z) 0
    have hff : ∀ (m : Nat) r, qs[m]? = some r → ks[m]? = some (ff r.1) := fun m r h => by
      have hm := (List.getElem?_eq_some_iff.mp h).1
      obtain ⟨n, hn⟩ := get_of (l := ks) (i := m) hks hm
      show ks[m]? = some (ks.getD ((names qs).idxOf r.1) 0)
      rw [idx_at nd (show (names qs)[m]? = some r.1 by rw [List.getElem?_map, h]; rfl), getD_of hn, hn]
    refine ⟨Dl, ts, tolK qs ff, rfl, sq_of hDl', paired_of (by rw [dI_len, hts]) fun m t kv ht hkv => ?_, fun d hd0 => ?_⟩
    · unfold tolK dI at hkv
      rw [List.getElem?_map] at hkv
      cases hqm : qs[m]? with
      | none =>
        rw [hqm] at hkv
        cases hkv
      | some r =>
        rw [hqm] at hkv
        cases hkv
        exact st_of (hall m t (ff r.1) r ht (hff m r hqm) hqm).1
    · rw [dI_merge nd]
      refine q d ff _ (fresh_back e1 (ExD.back eH dH hd0)) ((ExD.of e1).trans (eH.trans (ExD.of (Ex.new hd0)))) ((dH.upd (dH.fresh hd0)).up (by omega)) (fun r hr => ?_) upd_same
      obtain ⟨m, hm⟩ := List.mem_iff_getElem?.mp hr
      have hml := (List.getElem?_eq_some_iff.mp hm).1
      obtain ⟨t, ht⟩ := get_of (l := ts) (i := m) hts hml
      exact (hall m t (ff r.1) r ht (hff m r hm) hm).2
/-- what comes when a house is rich -/
theorem gv_come2 {qs : List (Row Str)} {a : Addr} {r0 : Row Str} {many : Nat} (hm : Ev tc σ H (.int (many : Nat))) (h1 : Ev ta σ H (.ref a)) (h2 : Ev tb σ H (.ref a)) (hh : Ev ty σ H (.str r0.1)) (hq : QH H a qs) (W : WellQ qs) (hr : r0 ∈ qs) :
    Gv (tCB rMin2 (tCons tc (tCons (tDGet (tCall spHeldL [] E0 (tCons ta (tCons (tCall spRunL [] E0 (tCons tb tNil)) tNil))) ty) tNil))) σ H (fun v _ => ∃ f, KQ.Least qs (cashF qs) f ∧ v = .int (min (many : Int) (held qs (cashF qs) f r0))) := fun H1 e Q q => by
  refine hm H1 e _ fun H2 e2 => h1 H2 (e.trans e2) _ fun H3 e3 => ?_
  have e13 := e.trans (e2.trans e3)
  refine told_run (gv_q h2 hq) W H3 e13 _ fun t f H4 ht0 e4 hl ht => ?_
  refine ⟨a, t, qs, f, rfl, hq.tx (TX.of (e13.trans e4)), W, ht, hl.1.1, fun d H5 hd0 e5 hd => ?_⟩
  refine hh H5 ((e13.trans e4).trans e5) _ fun H6 e6 => ?_
  have g := DGet.k (k := Sum.inr r0.1) (e6 _ _ hd)
  rw [dI_at W.nd hr] at g
  refine ⟨d, _, rfl, g, _, _, rfl, ?_⟩
  rw [show (if held qs (cashF qs) f r0 < (many : Int) then held qs (cashF qs) f r0 else (many : Int)) = min (many : Int) (held qs (cashF qs) f r0) by split <;> omega]
  exact q _ H6 ((e2.trans e3).trans (e4.trans (e5.trans e6))) ⟨f, hl, rfl⟩
end
def tLast (K : PySem.W.Frag) : TS :=
  tSeq (tAsg (tCall spRicher [] E0 (tCons (tVar 4) (tCons (tVar 19) (tCons (tVar 10) tNil)))) (gName 26))
    (tSeq (tAsg (tCB rMin2 (tCons (tVar 8) (tCons (tDGet (tCall spHeldL [] E0 (tCons (tVar 26) (tCons (tCall spRunL [] E0 (tCons (tVar 26) tNil)) tNil))) (tVar 6)) tNil))) (gName 27))
    (tIfS (tTest (tOp rNe (tOp rEqDI (tCall spRunL [] E0 (tCons (tCall spMore [] E0 (tCons (tVar 5) (tCons (tVar 7) (tCons (tVar 27) tNil)))) tNil)) (tVar 23)) (tVar 25))) (tRet (tC (.bl false))) tNext))
section
variable {one other B : List (Row Str)} {house goal : Str} {many : Nat} {r0 : Row Str}
/-- nothing of the one, all of the other -/
def gl2 (other : List (Row Str)) (z : Str) : Nat := if z ∈ names other then KQ.lenOf other z else 0
theorem LapF.gl2_one (F : LapF one other B house goal many r0) {r : Row Str} (h : r ∈ one) : gl2 other r.1 = 0 := if_neg fun hm => by
  obtain ⟨q, hq, e⟩ := mem_name hm
  exact F.L.dis r h q hq e.symm
theorem LapF.gl2_other (F : LapF one other B house goal many r0) {q : Row Str} (h : q ∈ other) : gl2 other q.1 = q.2.2.length := by
  unfold gl2
  rw [if_pos (List.mem_map.mpr ⟨q, h, rfl⟩)]
  exact KQ.lenOf_at (asc_nodup F.g2.asc) h
end

section
variable {K : PySem.W.Frag} {D : Ends} {s a a1 a2 ab pd : Addr} {y10 y25 y2 y3 y9 y11 y13 y14 y15 y16 y17 y18 y20 y21 y22 y24 y26 y27 : Option V} {one other B : List (Row Str)} {house goal start : Str} {many : Nat} {r0 : Row Str} {H : Hp}
theorem last_lap {cash : Int} {enough : Bool} (F : LapF one other B house goal many r0) (L : LapH H a1 a2 ab one other B) (hpd : H pd = some (.dK (tolK other (KQ.lenOf other)))) (hst : start ∈ names one) (hsh : start ≠ house) (hen : KQ.Reach B (setC (cashF B) start cash) (gl2 other) ↔ enough = true)
    (k : ∀ (y26 y27 : Option V) H', Ex H H' → D.nx [some (.ref s), some (.ref a), y2, y3, some (.ref a1), some (.ref a2), some (.str house), some (.str goal), some (.int (many : Nat)), y9, some (.int cash), y11, some (.ref ab), y13, y14, y15, y16, y17, y18, some (.str start), y20, y21, y22, some (.ref pd), y24, some (.bl enough), y26, y27] H') :
    tLast K D [some (.ref s), some (.ref a), y2, y3, some (.ref a1), some (.ref a2), some (.str house), some (.str goal), some (.int (many : Nat)), y9, some (.int cash), y11, some (.ref ab), y13, y14, y15, y16, y17, y18, some (.str start), y20, y21, y22, some (.ref pd), y24, some (.bl enough), y26, y27] H := by
  have W1 := F.g1.well
  have nd := W1.nd
  refine q_asgG (gv_richer (ea_cons (ev_var (i := 4) rfl) (ea_cons (ev_var (i := 19) rfl) (ea_cons (ev_var (i := 10) rfl) ea_nil))) L.q1 W1.l40) fun v1 H1 e1 ⟨ar, hv1, hqr⟩ => ?_
  subst hv1
  have Wr : WellQ (recash start cash one) := mc_well _ W1
  have hrm : ((r0.1, (if r0.1 = start then cash else r0.2.1), r0.2.2) : Row Str) ∈ recash start cash one := KQ.mc_in (g := fun r => if r.1 = start then cash else r.2.1) F.L.hr
  refine q_asgG (σ := [some (.ref s), some (.ref a), y2, y3, some (.ref a1), some (.ref a2), some (.str house), some (.str goal), some (.int (many : Nat)), y9, some (.int cash), y11, some (.ref ab), y13, y14, y15, y16, y17, y18, some (.str start), y20, y21, y22, some (.ref pd), y24, some (.bl enough), some (.ref ar), y27]) (gv_come2 (r0 := (r0.1, (if r0.1 = start then cash else r0.2.1), r0.2.2)) (ev_var (i := 8) rfl) (ev_var (i := 26) rfl) (ev_var (i := 26) rfl) (ev_is (ev_var (i := 6) rfl) (by rw [F.L.hn])) hqr Wr hrm) fun v2 H2 e2 ⟨f1, hl1, hv2⟩ => ?_
  subst hv2
  have e12 := e1.trans e2
  -- told over the one with other cash
  have hcr : ∀ r ∈ one, cashF (recash start cash one) r.1 = setC (cashF B) start cash r.1 := fun r hr => by
    rw [recash_mc, mc_cash _ nd hr]
    unfold KQ.setC
    rw [F.cash1 hr]
  have hl1' : KQ.Least one (setC (cashF B) start cash) f1 := KQ.least_congr hcr (KQ.mc_least.mp hl1)
  have hheld : held (recash start cash one) (cashF (recash start cash one)) f1 (r0.1, (if r0.1 = start then cash else r0.2.1), r0.2.2) = held one (setC (cashF B) start cash) f1 r0 := by
    rw [recash_mc, KQ.mc_held]
    unfold KQ.held
    rw [← recash_mc, hcr r0 F.L.hr]
  rw [hheld]
  have h00 : 0 ≤ setC (cashF B) start cash house := by
    rw [KQ.setC_ne hsh.symm]
    exact F.h0
  have h01 := F.L.come0 f1 h00
  have m8 := F.m8
  obtain ⟨kk, hkk⟩ := Int.eq_ofNat_of_zero_le (show 0 ≤ min (many : Int) (held one (setC (cashF B) start cash) f1 r0) by omega)
  rw [hkk]
  have gM := F.goodMore (k := kk) (by omega)
  have ngs : start ≠ goal := fun e => by
    obtain ⟨r, hr, hn⟩ := mem_name hst
    exact F.L.goal_ne hr (by rw [hn, e])
  have L2' := L.tx (TX.of e12)
  have wM := gM.well
  have hstep : ∀ (Q : V → Hp → Prop) , True := fun _ => trivial
  refine s_when (σ := [some (.ref s), some (.ref a), y2, y3, some (.ref a1), some (.ref a2), some (.str house), some (.str goal), some (.int (many : Nat)), y9, some (.int cash), y11, some (.ref ab), y13, y14, y15, y16, y17, y18, some (.str start), y20, y21, y22, some (.ref pd), y24, some (.bl enough), some (.ref ar), some (.int (kk : Nat))]) (b := false) (et_test (fun H3 e3 Q q => ?_)) (fun z => by cases z) fun _ H3 e3 => k _ _ H3 (e12.trans e3)
  refine told_run (gv_more (σ := [some (.ref s), some (.ref a), y2, y3, some (.ref a1), some (.ref a2), some (.str house), some (.str goal), some (.int (many : Nat)), y9, some (.int cash), y11, some (.ref ab), y13, y14, y15, y16, y17, y18, some (.str start), y20, y21, y22, some (.ref pd), y24, some (.bl enough), some (.ref ar), some (.int (kk : Nat))]) (ea_cons (ev_var (i := 5) rfl) (ea_cons (ev_var (i := 7) rfl) (ea_cons (ev_var (i := 27) rfl) ea_nil))) L2'.q2 F.g2.l40) wM H3 e3 _ fun p f2 H4 hp0 e4 hl2 hp => ?_
  have hl2' : KQ.Least other (addC (setC (cashF B) start cash) goal (kk : Int)) f2 := by
    have h1 : KQ.Least other (addC (cashF B) goal (kk : Int)) f2 := F.opt2 (m := true) hl2
    refine KQ.least_congr (fun r hr => ?_) h1
    unfold KQ.addC
    rw [KQ.setC_ne fun e => F.L.dis _ (mem_name hst).choose_spec.1 r hr (by rw [(mem_name hst).choose_spec.2, e])]
  have henough := (F.L.enough hl1' hkk.symm hl2' (fun r hr => F.gl2_one hr) (fun q hq => F.gl2_other hq)).symm.trans hen
  have h5 := (e12.trans (e3.trans e4)) _ _ hpd
  rw [add_mc, mc_tolK] at hp
  refine ⟨.ref pd, rfl, ?_⟩
  refine ⟨p, pd, tolK other f2, tolK other (KQ.lenOf other), rfl, rfl, hp, h5, by rw [dI_len, dI_len], fun kv hkv => ?_, ?_⟩
  · obtain ⟨r, hr, rfl⟩ := List.mem_map.mp hkv
    exact ⟨_, _, rfl, dI_at (asc_nodup F.g2.asc) hr⟩
  · have e1 : ((tolK other f2).all fun p => decide (valV (tolK other (KQ.lenOf other)) p.1 = some p.2)) = enough := by
      rw [Bool.eq_iff_iff, ← henough, List.all_eq_true]
      constructor
      · intro h r hr
        have h1 := of_decide_eq_true (h _ (List.mem_map.mpr ⟨r, hr, rfl⟩))
        rw [dI_at (asc_nodup F.g2.asc) hr] at h1
        have h2 : ((KQ.lenOf other r.1 : Nat) : Int) = ((f2 r.1 : Nat) : Int) := V.int.inj (Option.some.inj h1)
        rw [← KQ.lenOf_at (asc_nodup F.g2.asc) hr]
        omega
      · intro h kv hkv
        obtain ⟨r, hr, rfl⟩ := List.mem_map.mp hkv
        refine decide_eq_true ?_
        rw [dI_at (asc_nodup F.g2.asc) hr]
        show some (V.int (KQ.lenOf other r.1 : Nat)) = some (V.int (f2 r.1 : Nat))
        rw [h r hr, KQ.lenOf_at (asc_nodup F.g2.asc) hr]
    rw [e1]
    refine ⟨.bl enough, rfl, rfl, ?_⟩
    rw [decide_eq_true rfl]
    exact q H4 e4
theorem Dr.exM {a l c cm : Addr} {N : Nat} {H H' : Hp} (d : Dr a l c N H) (e : ExM cm H H') (n : cm ≠ a ∧ cm ≠ l ∧ cm ≠ c) : Dr a l c N H' := by
  obtain ⟨kvs, lg, cs, rest, turn, h1, h2, h3, h4, h5, h6, h7, h8, h9⟩ := d.ex
  exact ⟨kvs, lg, cs, rest, turn, e _ _ h1 n.1.symm, h2, h3, h4, h5, h6, e _ _ h7 n.2.1.symm, e _ _ h8 n.2.2.symm, h9⟩
theorem s_forIf {K : PySem.W.Frag} {σ : L2.St} {H : Hp} {D : Ends} {t : TT} {A B : TE} {g : TG} {tb : TS} {b : Bool} (h : EvT t σ H b) (k : ∀ H1, Ex H H1 → tFor (iList K (if b = true then A else B)) g tb D σ H1) : tFor (iList K (tIf t A B)) g tb D σ H := by
  unfold tFor iList tIf
  refine h H (Ex.refl H) _ fun H1 e => ?_
  have := k H1 e
  unfold tFor iList at this
  cases b with
  | true =>
    rw [if_pos rfl] at this ⊢
    exact this
  | false =>
    rw [if_neg Bool.false_ne_true] at this ⊢
    exact this
/-- need is not None and need > 0 -/
theorem et_need {σ : L2.St} {H : Hp} {o : Option Int} {i : Nat} (h : σ[i]? = some (some (optV o))) : EvT (tAnd (tTest (tOp rNotN' (tVar i) (tC .non))) (tTest (tOp (rI0 fun i j => .bl (decide (j < i))) (tVar i) (tC (.int 0))))) σ H (match o with | none => false | some v => decide (0 < v)) := by
  cases o with
  | none => exact et_is (et_and (b := false) (et_test (ev_op (ev_var h) (ev_c (v := .non)) fun H1 _ Q q => ⟨rfl, q H1 (Ex.refl H1)⟩)) fun z => by cases z) rfl
  | some v => exact et_is (et_and (et_test (ev_op (ev_var h) (ev_c (v := .non)) fun H1 _ Q q => ⟨rfl, q H1 (Ex.refl H1)⟩)) fun _ => et_test (ev_gtV (i := v) (j := 0) (ev_var h) ev_c)) (Bool.true_and _)
/-- the last loop -/
theorem last_for {wl : Addr} {ts : List Addr} {cs : List (Int × Bool)} (F : LapF one other B house goal many r0) (L : LapH H a1 a2 ab one other B) (hpd : H pd = some (.dK (tolK other (KQ.lenOf other)))) (hst : start ∈ names one) (hsh : start ≠ house) (hwl : H wl = some (.lst (ts.map V.ref))) (hts : Paired (fun t (c : Int × Bool) => H t = some (.tup [.int c.1, .bl c.2])) ts cs)
    (hen : ∀ c ∈ cs, (KQ.Reach B (setC (cashF B) start c.1) (gl2 other) ↔ c.2 = true))
    (k : ∀ (y10 y25 y26 y27 : Option V) H', Ex H H' → D.nx [some (.ref s), some (.ref a), y2, y3, some (.ref a1), some (.ref a2), some (.str house), some (.str goal), some (.int (many : Nat)), y9, y10, y11, some (.ref ab), y13, y14, y15, y16, y17, y18, some (.str start), y20, y21, y22, some (.ref pd), y24, y25, y26, y27] H') :
    tFor (fun _ H R => R (Itl K wl) H) (gTup K 2 (gCons (gName 10) (gCons (gName 25) gNil))) (tLast K) D [some (.ref s), some (.ref a), y2, y3, some (.ref a1), some (.ref a2), some (.str house), some (.str goal), some (.int (many : Nat)), y9, y10, y11, some (.ref ab), y13, y14, y15, y16, y17, y18, some (.str start), y20, y21, y22, some (.ref pd), y24, y25, y26, y27] H := by
  refine for_list (K := K) (a := wl) (xs := ts.map V.ref) (fun i σ' H' => ∃ y10 y25 y26 y27, σ' = [some (.ref s), some (.ref a), y2, y3, some (.ref a1), some (.ref a2), some (.str house), some (.str goal), some (.int (many : Nat)), y9, y10, y11, some (.ref ab), y13, y14, y15, y16, y17, y18, some (.str start), y20, y21, y22, some (.ref pd), y24, y25, y26, y27] ∧ Ex H H') ⟨_, _, _, _, rfl, Ex.refl _⟩ (fun i σ' H' _ hP => ?_) (fun i x σ' H' hx hP => ?_) (fun σ' H' hP => ?_)
  · obtain ⟨_, _, _, _, _, e⟩ := hP
    exact sq_of (e _ _ hwl)
  · obtain ⟨y10, y25, y26, y27, rfl, e⟩ := hP
    obtain ⟨t, ht, rfl⟩ := map_at hx
    obtain ⟨c, hc⟩ := get_of (l := cs) (i := i) rfl (by rw [← paired_len hts]; exact (List.getElem?_eq_some_iff.mp ht).1)
    refine g_tup2 (x := .int c.1) (y := .bl c.2) (e _ _ (paired_at hts ht hc)) ?_
    exact last_lap F (L.tx (TX.of e)) (e _ _ hpd) hst hsh (hen c (List.mem_of_getElem? hc)) fun _ _ H2 e2 => ⟨_, _, _, _, rfl, e.trans e2⟩
  · obtain ⟨y10, y25, y26, y27, rfl, e⟩ := hP
    exact k _ _ _ _ H' e
end

end NQ
namespace NQ
open PySem PySem.Spec PyProof.Rows L2 Evl
open KQ (Row held linkRow Linked Opt addC setC comb mc)
def spLaw (K : PySem.W.Frag) : Sp := fun vs H Q _ => ∃ (s : Addr) (ns : List Int), vs = [.ref s] ∧ SqL K H s (ns.map V.int) ∧ ns.length ≤ 63 ∧ ∀ H', Q (.bl true) H'
/-- what the first loop has found, so far -/
def Came (one other B : List (Row Str)) (goal : Str) (many : Nat) (r0 : Row Str) (m : Bool) (f1 f2 : Str → Nat) (k : Nat) : Prop :=
  Opt m one (cashF one) f1 ∧ k ≤ 8 ∧ (k : Int) = min (many : Int) (held one (cashF B) f1 r0) ∧ Opt m (addcash goal (k : Int) other) (cashF (addcash goal (k : Int) other)) f2
def CameTo (one other B : List (Row Str)) (goal : Str) (many : Nat) (r0 : Row Str) : Nat → List V → Prop
  | 0, cs => cs = []
  | 1, cs => ∃ f1 f2 k, Came one other B goal many r0 true f1 f2 k ∧ cs = [.int (k : Nat)]
  | _, cs => ∃ f1 f2 k g1 g2 m, Came one other B goal many r0 true f1 f2 k ∧ Came one other B goal many r0 false g1 g2 m ∧ cs = [.int (k : Nat), .int (m : Nat)]
theorem word_eq (b : Bool) : decide (V.str (wordS b) = V.str "flows") = b := by
  cases b <;> decide +kernel
theorem word_grid (b : Bool) : decide (V.str (wordS b) = V.str "gridlock") = !b := by
  cases b <;> decide +kernel
def SOwn (fr fb : Addr) (x : Addr) : Option Sp := if x = fr then some spRunL else if x = fb then some spBackL else none
def SWork (ff fg : Addr) (x : Addr) : Option Sp := if x = ff then some spFin else if x = fg then some spGre else none
section
variable {P : Program} {w : World} {K : PySem.W.Frag} {mg : Str → Option Value} {base : Heap} {f : Addr} {fd : FuncData} {aK : Addr} {tk : Tk}
theorem ok_law (F : Fun K "law" "law" s_law f fd) (T : Tx K mg aK tk) {f_final_state f__law_run_out f_greatest_feasible f__law_drawn_back : Addr} (g_final_state : mg "final_state" = some (.ref f_final_state)) (g__law_run_out : mg "_law_run_out" = some (.ref f__law_run_out)) (g_greatest_feasible : mg "greatest_feasible" = some (.ref f_greatest_feasible)) (g__law_drawn_back : mg "_law_drawn_back" = some (.ref f__law_drawn_back))
    (ne1 : f__law_drawn_back ≠ f__law_run_out) (ne2 : f_greatest_feasible ≠ f_final_state)
    (A_own : ∀ fa sp, SOwn f__law_run_out f__law_drawn_back fa = some sp → Held P w K mg base 2 fa sp) (A_work : ∀ fa sp, SWork f_final_state f_greatest_feasible fa = some sp → Held P w K mg base 5 fa sp)
    (c__law_begun : Cal P w K mg base CX0 1 "_law_begun" ["script"] (spBegun K)) (c__law_take : Cal P w K mg base CX0 2 "_law_take" ["draw", "many"] spTake) (c__law_pick : Cal P w K mg base CX0 3 "_law_pick" ["draw", "some"] spPick)
    (c__law_names : Cal P w K mg base CX0 4 "_law_names" ["draw", "many"] spNames) (c__law_lists : Cal P w K mg base CX0 4 "_law_lists" ["draw", "names", "most", "top"] spLists) (c__law_state : Cal P w K mg base CX0 1 "_law_state" ["queues", "told"] spStateL)
    (c__law_held : Cal P w K mg base CX0 1 "_law_held" ["queues", "told"] spHeldL) (c__law_run_out : Cal P w K mg base CX0 2 "_law_run_out" ["queues"] spRunL) (c__law_richer : Cal P w K mg base CX0 1 "_law_richer" ["queues", "house", "cash"] spRicher)
    (c__law_linked : Cal P w K mg base CX0 1 "_law_linked" ["one", "other", "house", "goal", "many"] spLink) (c__law_more : Cal P w K mg base CX0 1 "_law_more" ["queues", "house", "cash"] spMore)
    (c_gridlock_paper : Cal P w K mg base CX0 5 "gridlock_paper" ["queues"] spGrid) (c_needed_cash : Cal P w K mg base CX0 5 "needed_cash" ["queues", "house", "goal"] spNeed) : FnOk P w K mg base CX0 6 f fd ["script"] (spLaw K) := by
  refine F.ok sc_law (fun vs H Q E h => ?_) (fun cdv A outer sh H vs Q E hr h => ?_)
  · obtain ⟨s, ns, rfl, _⟩ := h
    rfl
  · obtain ⟨s, ns, rfl, hS, hlen, q⟩ := h
    have hu := hu_of hr
    refine ⟨_, (pss_cons (ps_set (i := 1) sc_law.nd rfl (Or.inr rfl) (pe_cl c__law_begun hr (by decide) (by rfl) (pa_cons (pv 0) pa_nil)))
      (pss_cons (ps_for PassesOwn.never rfl (pi_range1 (by rfl) T.range (pa_cons (pe_op op_add pe_int (pe_callB (call_min2 rfl) (by rfl) T.min (by decide +kernel) (pa_cons (pe_callB (crLen (K := K) rfl) (by rfl) T.len (by decide +kernel) (pa_cons (pv 0) pa_nil)) (pa_cons pe_int pa_nil)))) pa_nil)) (pg_name (i := 2) sc_law.nd rfl (Or.inl rfl))
        (pss_cons (ps_set (i := 3) sc_law.nd rfl (Or.inl rfl) (pe_cl c__law_names hr (by decide) (by rfl) (pa_cons (pv 1) (pa_cons (pe_op op_add pe_int (pe_cl c__law_take hr (by decide) (by rfl) (pa_cons (pv 1) (pa_cons pe_int pa_nil)))) pa_nil))))
      (pss_cons (ps_par (i := 4) (j := 5) (by rfl) sc_law.nd rfl rfl (by decide) rfl rfl (pa_cons (pe_cl c__law_lists hr (by decide) (by rfl) (pa_cons (pv 1) (pa_cons (pe_slice (slL (K := K) rfl) (pv 3) po_none (po_some pe_int)) (pa_cons pe_int (pa_cons pe_int pa_nil))))) (pa_cons (pe_cl c__law_lists hr (by decide) (by rfl) (pa_cons (pv 1) (pa_cons (pe_slice (slL (K := K) rfl) (pv 3) (po_some pe_int) po_none) (pa_cons pe_int (pa_cons pe_int pa_nil))))) pa_nil)) (by rfl))
      (pss_cons (ps_asg (pe_tup (pa_cons (pe_cl c__law_pick hr (by decide) (by rfl) (pa_cons (pv 1) (pa_cons (pe_slice (slL (K := K) rfl) (pv 3) po_none (po_some pe_int)) pa_nil))) (pa_cons (pe_cl c__law_pick hr (by decide) (by rfl) (pa_cons (pv 1) (pa_cons (pe_slice (slL (K := K) rfl) (pv 3) (po_some pe_int) po_none) pa_nil))) (pa_cons (pe_op op_add pe_int (pe_cl c__law_take hr (by decide) (by rfl) (pa_cons (pv 1) (pa_cons pe_int pa_nil)))) pa_nil)))) (pgTup (K := K) (n := 3) rfl rfl (pgs_cons (pg_name (i := 6) sc_law.nd rfl (Or.inr rfl)) (pgs_cons (pg_name (i := 7) sc_law.nd rfl (Or.inl rfl)) (pgs_cons (pg_name (i := 8) sc_law.nd rfl (Or.inl rfl)) pgs_nil)))))
      (pss_cons (ps_set (i := 4) sc_law.nd rfl (Or.inl rfl) (pe_tup (pa_cons pe_str (pa_cons (pe_callTy (crTup (K := K) rfl) (by rfl) T.tuple (by decide +kernel) (pa_cons (pe_lc (own := [("name", 9), ("cash", 10), ("payments", 11)]) rfl sc_law.nd (piTup (K := K) rfl (pe_ix (ixT (K := K) rfl) (pv 4) pe_int (fun _ _ => rfl))) (blkOk_by (own := [("name", 9), ("cash", 10), ("payments", 11)]) (N := N_law) (sc := defScope s_law) (by decide +kernel)) (fun _ _ _ _ _ => (pgTup (K := K) (n := 3) rfl rfl (pgs_cons (pg_name (i := 9) sc_law.nd rfl (Or.inl rfl)) (pgs_cons (pg_name (i := 10) sc_law.nd rfl (Or.inl rfl)) (pgs_cons (pg_name (i := 11) sc_law.nd rfl (Or.inl rfl)) pgs_nil))))) (fun _ _ _ _ _ => pts_nil) (fun _ _ _ _ _ => (pe_tup (pa_cons (pv 9) (pa_cons (pv 10) (pa_cons (pe_ifExp (pt_cmpR op_eq (pv 9) (pv 6) (nomark _)) (pe_tup pa_nil) (pv 11)) pa_nil)))))) pa_nil)) pa_nil))))
      (pss_cons (ps_set (i := 12) sc_law.nd rfl (Or.inl rfl) (pe_cl c__law_linked hr (by decide) (by rfl) (pa_cons (pv 4) (pa_cons (pv 5) (pa_cons (pv 6) (pa_cons (pv 7) (pa_cons (pv 8) pa_nil)))))))
      (pss_cons (ps_set (i := 13) sc_law.nd rfl (Or.inl rfl) (pe_lst pa_nil))
      (pss_cons (ps_for PassesOwn.never rfl (piLst (K := K) rfl (pe_lst (pa_cons (pe_tup (pa_cons (pe_glob (by rfl) g_final_state (show RelV (.ref f_final_state) (.ref f_final_state) from rfl)) (pa_cons (pe_glob (by rfl) g__law_run_out (show RelV (.ref f__law_run_out) (.ref f__law_run_out) from rfl)) pa_nil))) (pa_cons (pe_tup (pa_cons (pe_glob (by rfl) g_greatest_feasible (show RelV (.ref f_greatest_feasible) (.ref f_greatest_feasible) from rfl)) (pa_cons (pe_glob (by rfl) g__law_drawn_back (show RelV (.ref f__law_drawn_back) (.ref f__law_drawn_back) from rfl)) pa_nil))) pa_nil)))) (pgTup (K := K) (n := 2) rfl rfl (pgs_cons (pg_name (i := 14) sc_law.nd rfl (Or.inl rfl)) (pgs_cons (pg_name (i := 15) sc_law.nd rfl (Or.inl rfl)) pgs_nil)))
        (pss_cons (ps_set (i := 16) sc_law.nd rfl (Or.inl rfl) (pe_callA (i := 15) A_own (hr.mono (by decide)) rfl (Or.inl rfl) (pa_cons (pv 4) pa_nil)))
      (pss_cons (ps_expr (pe_bm PySem.F.plainAttrs_list PySem.F.slot_list_append PySem.F.type_list_append mt_append (pv 13) (pa_cons (pe_callB (call_min2 rfl) (by rfl) T.min (by decide +kernel) (pa_cons (pv 8) (pa_cons (pe_dget hu (pe_cl c__law_held hr (by decide) (by rfl) (pa_cons (pv 4) (pa_cons (pv 16) pa_nil))) (pv 6) (fun _ _ => rfl)) pa_nil))) pa_nil)))
      (pss_cons (ps_set (i := 17) sc_law.nd rfl (Or.inl rfl) (pe_callA (i := 15) A_own (hr.mono (by decide)) rfl (Or.inl rfl) (pa_cons (pe_cl c__law_more hr (by decide) (by rfl) (pa_cons (pv 5) (pa_cons (pv 7) (pa_cons (pe_ix (ixL (K := K) rfl) (pv 13) (pe_un un_neg pe_int) (fun _ _ => rfl)) pa_nil)))) pa_nil)))
      (pss_cons (ps_expr (pe_bm PySem.F.plainAttrs_dict PySem.F.slot_dict_update PySem.F.type_dict_update mtd_update (pv 17) (pa_cons (pv 16) pa_nil)))
      (pss_cons (ps_dput hu (pv 17) (pv 6) (pe_ix (ixL (K := K) rfl) (pv 13) (pe_un un_neg pe_int) (fun _ _ => rfl)) rfl)
      (pss_one (ps_if (pt_cmpR (opNeD (K := K) rfl hr.units) (pe_callA (i := 14) A_work (hr.mono (by decide)) rfl (Or.inl rfl) (pa_cons (pv 12) pa_nil)) (pe_cl c__law_state hr (by decide) (by rfl) (pa_cons (pv 12) (pa_cons (pv 17) pa_nil))) (nomark _))
        (pss_one (ps_ret pe_bl))
        pss_nil))))))))
      (pss_cons (ps_set (i := 18) sc_law.nd rfl (Or.inl rfl) (pe_lst (pa_cons (pe_ix (ixT (K := K) rfl) (pe_cl c_gridlock_paper hr (by decide) (by rfl) (pa_cons (pv 4) pa_nil)) pe_int (fun _ _ => rfl)) (pa_cons (pe_ix (ixT (K := K) rfl) (pe_cl c_gridlock_paper hr (by decide) (by rfl) (pa_cons (pe_cl c__law_more hr (by decide) (by rfl) (pa_cons (pv 5) (pa_cons (pv 7) (pa_cons (pe_ix (ixL (K := K) rfl) (pv 13) pe_int (fun _ _ => rfl)) pa_nil)))) pa_nil)) pe_int (fun _ _ => rfl)) pa_nil))))
      (pss_cons (ps_if (PW.pt (pw_and (pt_cmpR op_eq (pe_ix (ixL (K := K) rfl) (pv 13) pe_int (fun _ _ => rfl)) (pe_ix (ixL (K := K) rfl) (pv 13) pe_int (fun _ _ => rfl)) (nomark _)) (pw_and1 (pt_cmpR op_ne (pe_cmpR op_eq (pe_ix (ixT (K := K) rfl) (pe_cl c_gridlock_paper hr (by decide) (by rfl) (pa_cons (pv 12) pa_nil)) pe_int (fun _ _ => rfl)) pe_str (nomark _)) (pe_cmpR (opEqD (K := K) rfl hr.units) (pv 18) (pe_lst (pa_cons pe_str (pa_cons pe_str pa_nil))) (nomark _)) (nomark _)))))
        (pss_one (ps_ret pe_bl))
        pss_nil)
      (pss_cons (ps_if (PW.pt (pw_and (pt_cmpR op_ne (pe_ix (ixL (K := K) rfl) (pv 13) pe_int (fun _ _ => rfl)) (pe_ix (ixL (K := K) rfl) (pv 13) pe_int (fun _ _ => rfl)) (nomark _)) (pw_and1 (pt_cmpR op_ne (pe_ix (ixT (K := K) rfl) (pe_cl c_gridlock_paper hr (by decide) (by rfl) (pa_cons (pv 12) pa_nil)) pe_int (fun _ _ => rfl)) pe_str (nomark _)))))
        (pss_one (ps_ret pe_bl))
        pss_nil)
      (pss_cons (ps_set (i := 19) sc_law.nd rfl (Or.inl rfl) (pe_cl c__law_pick hr (by decide) (by rfl) (pa_cons (pv 1) (pa_cons (pe_lc (own := [("name", 9)]) rfl sc_law.nd (piLst (K := K) rfl (pe_slice (slL (K := K) rfl) (pv 3) po_none (po_some pe_int))) (blkOk_by (own := [("name", 9)]) (N := N_law) (sc := defScope s_law) (by decide +kernel)) (fun _ _ _ _ _ => (pg_name (i := 9) sc_law.nd rfl (Or.inl rfl))) (fun _ _ _ _ _ => pts_one (pt_cmpR op_ne (pv 9) (pv 6) (nomark _))) (fun _ _ _ _ _ => (pv 9))) pa_nil))))
      (pss_cons (ps_set (i := 20) sc_law.nd rfl (Or.inl rfl) (pe_callTy (crDictL (K := K) rfl rfl) (by rfl) T.dict (by decide +kernel) (pa_cons (pe_lc (own := [("part", 21)]) rfl sc_law.nd (piTup (K := K) rfl (pe_ix (ixT (K := K) rfl) (pv 4) pe_int (fun _ _ => rfl))) (blkOk_by (own := [("part", 21)]) (N := N_law) (sc := defScope s_law) (by decide +kernel)) (fun _ _ _ _ _ => (pg_name (i := 21) sc_law.nd rfl (Or.inl rfl))) (fun _ _ _ _ _ => pts_nil) (fun _ _ _ _ _ => (pe_tup (pa_cons (pe_ix (ixT (K := K) rfl) (pv 21) pe_int (fun _ _ => rfl)) (pa_cons (pe_cl c__law_take hr (by decide) (by rfl) (pa_cons (pv 1) (pa_cons (pe_op op_add (pe_callB (crLen (K := K) rfl) (by rfl) T.len (by decide +kernel) (pa_cons (pe_ix (ixT (K := K) rfl) (pv 21) pe_int (fun _ _ => rfl)) pa_nil)) pe_int) pa_nil))) pa_nil))))) pa_nil)))
      (pss_cons (ps_set (i := 22) sc_law.nd rfl (Or.inl rfl) (pe_callTy (crDictL (K := K) rfl rfl) (by rfl) T.dict (by decide +kernel) (pa_cons (pe_lc (own := [("part", 21)]) rfl sc_law.nd (piTup (K := K) rfl (pe_ix (ixT (K := K) rfl) (pv 12) pe_int (fun _ _ => rfl))) (blkOk_by (own := [("part", 21)]) (N := N_law) (sc := defScope s_law) (by decide +kernel)) (fun _ _ _ _ _ => (pg_name (i := 21) sc_law.nd rfl (Or.inl rfl))) (fun _ _ _ _ _ => pts_nil) (fun _ _ _ _ _ => (pe_tup (pa_cons (pe_ix (ixT (K := K) rfl) (pv 21) pe_int (fun _ _ => rfl)) (pa_cons pe_int pa_nil))))) pa_nil)))
      (pss_cons (ps_expr (pe_bm PySem.F.plainAttrs_dict PySem.F.slot_dict_update PySem.F.type_dict_update mtd_update (pv 22) (pa_cons (pv 20) pa_nil)))
      (pss_cons (ps_if (pt_cmpR op_ne (pe_cl c_needed_cash hr (by decide) (by rfl) (pa_cons (pv 12) (pa_cons (pv 19) (pa_cons (pe_cl c__law_state hr (by decide) (by rfl) (pa_cons (pv 12) (pa_cons (pv 22) pa_nil))) pa_nil)))) (pe_cl c_needed_cash hr (by decide) (by rfl) (pa_cons (pv 4) (pa_cons (pv 19) (pa_cons (pe_cl c__law_state hr (by decide) (by rfl) (pa_cons (pv 4) (pa_cons (pv 20) pa_nil))) pa_nil)))) (nomark _))
        (pss_one (ps_ret pe_bl))
        pss_nil)
      (pss_cons (ps_set (i := 23) sc_law.nd rfl (Or.inr rfl) (pe_callTy (crDictL (K := K) rfl rfl) (by rfl) T.dict (by decide +kernel) (pa_cons (pe_lc (own := [("part", 21)]) rfl sc_law.nd (piTup (K := K) rfl (pe_ix (ixT (K := K) rfl) (pv 5) pe_int (fun _ _ => rfl))) (blkOk_by (own := [("part", 21)]) (N := N_law) (sc := defScope s_law) (by decide +kernel)) (fun _ _ _ _ _ => (pg_name (i := 21) sc_law.nd rfl (Or.inl rfl))) (fun _ _ _ _ _ => pts_nil) (fun _ _ _ _ _ => (pe_tup (pa_cons (pe_ix (ixT (K := K) rfl) (pv 21) pe_int (fun _ _ => rfl)) (pa_cons (pe_callB (crLen (K := K) rfl) (by rfl) T.len (by decide +kernel) (pa_cons (pe_ix (ixT (K := K) rfl) (pv 21) pe_int (fun _ _ => rfl)) pa_nil)) pa_nil))))) pa_nil)))
      (pss_cons (ps_set (i := 22) sc_law.nd rfl (Or.inl rfl) (pe_callTy (crDictL (K := K) rfl rfl) (by rfl) T.dict (by decide +kernel) (pa_cons (pe_lc (own := [("part", 21)]) rfl sc_law.nd (piTup (K := K) rfl (pe_ix (ixT (K := K) rfl) (pv 12) pe_int (fun _ _ => rfl))) (blkOk_by (own := [("part", 21)]) (N := N_law) (sc := defScope s_law) (by decide +kernel)) (fun _ _ _ _ _ => (pg_name (i := 21) sc_law.nd rfl (Or.inl rfl))) (fun _ _ _ _ _ => pts_nil) (fun _ _ _ _ _ => (pe_tup (pa_cons (pe_ix (ixT (K := K) rfl) (pv 21) pe_int (fun _ _ => rfl)) (pa_cons (pe_dget2 hu (pv 23) (pe_ix (ixT (K := K) rfl) (pv 21) pe_int (fun _ _ => rfl)) pe_int ⟨rfl, rfl, rfl, rfl⟩) pa_nil))))) pa_nil)))
      (pss_cons (ps_set (i := 24) sc_law.nd rfl (Or.inl rfl) (pe_cl c_needed_cash hr (by decide) (by rfl) (pa_cons (pv 12) (pa_cons (pv 19) (pa_cons (pe_cl c__law_state hr (by decide) (by rfl) (pa_cons (pv 12) (pa_cons (pv 22) pa_nil))) pa_nil)))))
      (pss_one (ps_for PassesOwn.never rfl (piLst (K := K) rfl (pe_ifExp (PW.pt (pw_and (pt_cmpR op_notN (pv 24) pe_non (nomark _)) (pw_and1 (pt_cmpR op_gt (pv 24) pe_int (nomark _))))) (pe_lst (pa_cons (pe_tup (pa_cons (pv 24) (pa_cons pe_bl pa_nil))) (pa_cons (pe_tup (pa_cons (pe_op op_sub (pv 24) pe_int) (pa_cons pe_bl pa_nil))) pa_nil))) (pe_lst (pa_cons (pe_tup (pa_cons (pe_op op_pow pe_int pe_int) (pa_cons (pe_cmpR op_notN (pv 24) pe_non (nomark _)) pa_nil))) pa_nil)))) (pgTup (K := K) (n := 2) rfl rfl (pgs_cons (pg_name (i := 10) sc_law.nd rfl (Or.inl rfl)) (pgs_cons (pg_name (i := 25) sc_law.nd rfl (Or.inl rfl)) pgs_nil)))
        (pss_cons (ps_set (i := 26) sc_law.nd rfl (Or.inl rfl) (pe_cl c__law_richer hr (by decide) (by rfl) (pa_cons (pv 4) (pa_cons (pv 19) (pa_cons (pv 10) pa_nil)))))
      (pss_cons (ps_set (i := 27) sc_law.nd rfl (Or.inl rfl) (pe_callB (call_min2 rfl) (by rfl) T.min (by decide +kernel) (pa_cons (pv 8) (pa_cons (pe_dget hu (pe_cl c__law_held hr (by decide) (by rfl) (pa_cons (pv 26) (pa_cons (pe_cl c__law_run_out hr (by decide) (by rfl) (pa_cons (pv 26) pa_nil)) pa_nil))) (pv 6) (fun _ _ => rfl)) pa_nil))))
      (pss_one (ps_if (pt_cmpR op_ne (pe_cmpR (op_eq_dictI (Nat.lt_of_le_of_lt (Nat.le_add_right _ 64) hr.units)) (pe_cl c__law_run_out hr (by decide) (by rfl) (pa_cons (pe_cl c__law_more hr (by decide) (by rfl) (pa_cons (pv 5) (pa_cons (pv 7) (pa_cons (pv 27) pa_nil)))) pa_nil)) (pv 23) (nomark _)) (pv 25) (nomark _))
        (pss_one (ps_ret pe_bl))
        pss_nil)))))))))))))))))))))))))
      (pss_one (ps_ret pe_bl)))), ?_⟩
    -- draw
    refine ⟨.ref s, rfl, s, ns, rfl, hS, hlen, fun a l c H1 e1 d1 ha0 hl0 => ?_⟩
    have nsl : (ns.map V.int).length = ns.length := List.length_map ..
    refine q_forR1 (σ := [some (.ref s), some (.ref a), none, none, none, none, none, none, none, none, none, none, none, none, none, none, none, none, none, none, none, none, none, none, none, none, none, none]) (n := 1 + (if (3 : Int) < ((ns.map V.int).length : Int) then 3 else ((ns.map V.int).length : Int))) (ea_cons (ev_add ev_c (ev_min2 (ev_len (K := K) (ev_var (i := 0) rfl) (ex_l e1 hS)) ev_c)) ea_nil) (by split <;> omega)
      (fun i σ' H' => ∃ (y2 y3 y4 y5 y6 y7 y8 y9 y10 y11 y12 y13 y14 y15 y16 y17 y18 y19 y20 y21 y22 y23 y24 y25 y26 y27 : Option V), σ' = [some (.ref s), some (.ref a), y2, y3, y4, y5, y6, y7, y8, y9, y10, y11, y12, y13, y14, y15, y16, y17, y18, y19, y20, y21, y22, y23, y24, y25, y26, y27] ∧ Dr a l c (2000 * i) H')
      (fun H2 e2 => ⟨_, _, _, _, _, _, _, _, _, _, _, _, _, _, _, _, _, _, _, _, _, _, _, _, _, _, rfl, d1.mono e2⟩) (fun i σ' H2 hi hP => ?_) (fun σ' H2 hP => ?_)
    · obtain ⟨y2, y3, y4, y5, y6, y7, y8, y9, y10, y11, y12, y13, y14, y15, y16, y17, y18, y19, y20, y21, y22, y23, y24, y25, y26, y27, rfl, d2⟩ := hP
      have hi4 : i < 4 := by
        split at hi <;> omega
      -- names
      refine ⟨.ref a, rfl, ?_⟩
      refine do_take (H := H2) (size := 4) (ea_cons (ev_var (i := 1) rfl) (ea_cons ev_c ea_nil)) d2 (by omega) (by decide) (by decide) (Ex.refl _) fun v H3 v0 v1 d3 e3 => ?_
      obtain ⟨m5, rfl⟩ := Int.eq_ofNat_of_zero_le v0
      refine ⟨5, (m5 : Int), rfl, rfl, ?_⟩
      refine ⟨a, l, c, _, 5 + m5, by rw [show ((5 + m5 : Nat) : Int) = (5 : Int) + (m5 : Int) by omega]; rfl, d3, by omega, by omega, fun nm zs H4 znd zg zl d4 e4 hnm0 hnm => ?_⟩
      have nnm := d3.fresh hnm0
      have zt : (zs.take 3).length = 3 := by rw [List.length_take]; omega
      have zd : (zs.drop 3).length = 2 + m5 := by rw [List.length_drop]; omega
      -- one, other
      refine do_lists (σ := [some (.ref s), some (.ref a), some (.int (i : Int)), some (.ref nm), y4, y5, y6, y7, y8, y9, y10, y11, y12, y13, y14, y15, y16, y17, y18, y19, y20, y21, y22, y23, y24, y25, y26, y27]) (i := 1) (ns := zs.take 3) rfl (el_front3 (K := K) (ev_var (i := 3) rfl) hnm) d4 (by omega) (znd.sublist (List.take_sublist _ _)) (fun z hz => zg z (List.mem_of_mem_take hz)) (by omega) (by omega) fun p1 qs1 H5 g1 per1 b1 q1 d5 e5 => ?_
      have hnm5 := e5 _ _ hnm nnm.1 nnm.2.1
      refine do_lists (σ := [some (.ref s), some (.ref a), some (.int (i : Int)), some (.ref nm), y4, y5, y6, y7, y8, y9, y10, y11, y12, y13, y14, y15, y16, y17, y18, y19, y20, y21, y22, y23, y24, y25, y26, y27]) (i := 1) (ns := zs.drop 3) rfl (el_back3 (K := K) (ev_var (i := 3) rfl) hnm5) d5 (by omega) (znd.sublist (List.drop_sublist _ _)) (fun z hz => zg z (List.mem_of_mem_drop hz)) (by omega) (by omega) fun p2 qs2 H6 g2 per2 b2 q2 d6 e6 => ?_
      refine ⟨_, _, rfl, ?_⟩
      have hnm6 := e6 _ _ hnm5 nnm.1 nnm.2.1
      have q1 := q1.tx (d5.tx e6)
      -- house, goal, many
      refine do_pickL' (σ := [some (.ref s), some (.ref a), some (.int (i : Int)), some (.ref nm), some (.ref p1), some (.ref p2), y6, y7, y8, y9, y10, y11, y12, y13, y14, y15, y16, y17, y18, y19, y20, y21, y22, y23, y24, y25, y26, y27]) (i := 1) rfl (el_front3 (K := K) (ev_var (i := 3) rfl) hnm6) d6 (by omega) (by rw [List.length_map]; omega) (by rw [List.length_map]; omega) fun vh H7 hvh d7 e7 => ?_
      obtain ⟨house, hhz, rfl⟩ := List.mem_map.mp hvh
      have hnm7 := e7 _ _ hnm6 nnm.1 nnm.2.1
      refine do_pickL' (σ := [some (.ref s), some (.ref a), some (.int (i : Int)), some (.ref nm), some (.ref p1), some (.ref p2), y6, y7, y8, y9, y10, y11, y12, y13, y14, y15, y16, y17, y18, y19, y20, y21, y22, y23, y24, y25, y26, y27]) (i := 1) rfl (el_back3 (K := K) (ev_var (i := 3) rfl) hnm7) d7 (by omega) (by rw [List.length_map]; omega) (by rw [List.length_map]; omega) fun vg H8 hvg d8 e8 => ?_
      obtain ⟨goal, hgz, rfl⟩ := List.mem_map.mp hvg
      have hnm8 := e8 _ _ hnm7 nnm.1 nnm.2.1
      refine do_take (H := H8) (size := 8) (ea_cons (ev_var (i := 1) rfl) (ea_cons ev_c ea_nil)) d8 (by omega) (by decide) (by decide) (Ex.refl _) fun vm H9 m0 m1 d9 e9 => ?_
      obtain ⟨mm, rfl⟩ := Int.eq_ofNat_of_zero_le m0
      refine ⟨1, (mm : Int), rfl, rfl, ?_⟩
      refine ⟨by show 3 ≤ sizeLine; decide, fun tp htp => ?_⟩
      dsimp only
      rw [show (1 : Int) + (mm : Int) = ((mm + 1 : Nat) : Int) by omega]
      obtain ⟨many, hmany⟩ : ∃ k, k = mm + 1 := ⟨_, rfl⟩
      rw [← hmany]
      refine g_tup3 (x := .str house) (y := .str goal) (z := .int (many : Nat)) upd_same ?_
      have e9 : ExD a l H8 (upd H9 tp (.tup [.str house, .str goal, .int (many : Nat)])) := e9.trans (ExD.of (Ex.new htp))
      have d9 := d9.upd (p := tp) (o := .tup [.str house, .str goal, .int (many : Nat)]) (d9.fresh htp)
      generalize upd H9 tp (.tup [.str house, .str goal, .int (many : Nat)]) = H9 at e9 d9
      have e69 := e7.trans (e8.trans e9)
      have hnm9 := e9 _ _ hnm8 nnm.1 nnm.2.1
      have q1 := q1.tx (d6.tx e69)
      have q2 := q2.tx (d6.tx e69)
      clear hvh hvg
      -- one, without what the house pays
      obtain ⟨b1', ha1, ps1, hb1, hpr1⟩ := id q1
      have hlen1 : (ps1.map V.ref).length = qs1.length := by rw [List.length_map, paired_len hpr1]
      have hul : (unpay house qs1).length = qs1.length := List.length_map ..
      have ql1 : qs1.length = 3 := by
        have := per1.length_eq
        rw [List.length_map] at this
        omega
      have ql2 : qs2.length = 2 + m5 := by
        have := per2.length_eq
        rw [List.length_map] at this
        omega
      refine q_asgG (σ := [some (.ref s), some (.ref a), some (.int (i : Int)), some (.ref nm), some (.ref p1), some (.ref p2), some (.str house), some (.str goal), some (.int (many : Nat)), y9, y10, y11, y12, y13, y14, y15, y16, y17, y18, y19, y20, y21, y22, y23, y24, y25, y26, y27]) (gv_queues (K := K) (rs := unpay house qs1) (n := (ps1.map V.ref).length) (by rw [hul, hlen1]) (el_lcG (ei_tup (K := K) (eq_ev (ev_houses (K := K) (ev_var (i := 4) rfl) ha1) (st_of hb1))) (by rw [hlen1]; omega) (fun _ => true) _
        (fun i v H1 H2 e ⟨p, hv, hp⟩ => ⟨p, hv, hp.tx e⟩) fun k x H10 H11 e10 hk hy => ?_)) fun v1 H10 e10 ⟨a1, hv1, hq1⟩ => ?_
      · obtain ⟨rfl, hx⟩ := hy
        obtain ⟨p, r, rfl, _, hqr, q', hrow, hpay⟩ := RowsH.at hpr1 hx
        refine ⟨Ex.refl _, _, fun R h => g_tup3 (i := 9) (j := 10) (l := 11) (e10 _ _ hrow) h, rfl, et_yes, fun _ => ?_⟩
        have er : (unpay house qs1).getD k rowD = (r.1, r.2.1, if r.1 = house then [] else r.2.2) := getD_of (by unfold unpay; rw [List.getElem?_map, hqr]; rfl)
        rw [er]
        intro H12 e12 Q' q''
        refine ⟨.str r.1, rfl, .int r.2.1, rfl, ?_⟩
        refine et_test (σ := [some (.ref s), some (.ref a), some (.int (i : Int)), some (.ref nm), some (.ref p1), some (.ref p2), some (.str house), some (.str goal), some (.int (many : Nat)), some (.str r.1), some (.int r.2.1), some (.ref q'), y12, y13, y14, y15, y16, y17, y18, y19, y20, y21, y22, y23, y24, y25, y26, y27]) (H := H12) (b := decide (r.1 = house)) (ev_is (ev_op (ev_var (i := 9) rfl) (ev_var (i := 6) rfl) (rv_eq rfl)) (by rw [show decide (V.str r.1 = V.str house) = decide (r.1 = house) from decide_eq_decide.mpr (by rw [V.str.injEq])])) H12 (Ex.refl _) _ fun H13 e13 => ?_
        by_cases hh : r.1 = house
        · rw [decide_eq_true hh, if_pos rfl]
          refine ⟨Nat.zero_le _, fun t ht => ⟨by show 3 ≤ sizeLine; decide, fun t2 ht2 => ?_⟩⟩
          have x1 : Ex H13 (upd H13 t (.tup [])) := Ex.new ht
          have x2 : Ex (upd H13 t (.tup [])) (upd (upd H13 t (.tup [])) t2 (.tup [.str r.1, .int r.2.1, .ref t])) := Ex.new ht2
          refine q'' _ _ (e13.trans (x1.trans x2)) ⟨t2, rfl, t, upd_same, [], x2 _ _ upd_same, ?_⟩
          rw [if_pos hh]
          exact .nil
        · rw [decide_eq_false hh, if_neg Bool.false_ne_true]
          refine ⟨.ref q', rfl, by show 3 ≤ sizeLine; decide, fun t2 ht2 => ?_⟩
          have x2 : Ex H13 (upd H13 t2 (.tup [.str r.1, .int r.2.1, .ref q'])) := Ex.new ht2
          refine q'' _ _ (e13.trans x2) ⟨t2, rfl, q', upd_same, ?_⟩
          rw [if_neg hh]
          exact hpay.tx (TX.of (e10.trans (e12.trans (e13.trans x2))))
      subst hv1
      have d10 := d9.mono e10
      have q2 := q2.tx (TX.of e10)
      have hnm10 := e10 _ _ hnm9
      clear q1 ha1 hb1 hpr1
      -- both
      have ndn : (names qs1 ++ names qs2).Nodup := by
        have h1 : (names qs1 ++ names qs2).Perm zs := (per1.append per2).trans (by rw [List.take_append_drop])
        exact h1.nodup_iff.mpr znd
      refine q_asgG (σ := [some (.ref s), some (.ref a), some (.int (i : Int)), some (.ref nm), some (.ref a1), some (.ref p2), some (.str house), some (.str goal), some (.int (many : Nat)), y9, y10, y11, y12, y13, y14, y15, y16, y17, y18, y19, y20, y21, y22, y23, y24, y25, y26, y27]) (gv_link (ea_cons (ev_var (i := 4) rfl) (ea_cons (ev_var (i := 5) rfl) (ea_cons (ev_var (i := 6) rfl) (ea_cons (ev_var (i := 7) rfl) (ea_cons (ev_var (i := 8) rfl) ea_nil))))) hq1 q2 (by omega) (by omega) (by rw [hul]; omega) (by rw [unpay_names]; exact ndn)) fun v2 H11 e11 ⟨ab, B, hv2, hB, hasc, hqB⟩ => ?_
      subst hv2
      obtain ⟨r0, LF⟩ := lap_facts g1 g2 ndn (per1.mem_iff.mpr hhz) (per2.mem_iff.mpr hgz) (show 1 ≤ many by omega) (show many ≤ 8 by omega) (fun r hr => by have := (b2 r hr).2.1; omega) (by omega) (by omega) hB hasc
      have d11 := d10.mono e11
      have LH : LapH H11 a1 p2 ab (unpay house qs1) qs2 B := ⟨hq1.tx (TX.of e11), q2.tx (TX.of e11), hqB⟩
      have hnm11 := e11 _ _ hnm10
      have hn1 : names (unpay house qs1) = names qs1 := unpay_names
      have hin1 : ∀ z, z ∈ zs.take 3 ↔ z ∈ names (unpay house qs1) := fun z => by rw [hn1]; exact per1.mem_iff.symm
      generalize unpay house qs1 = one at LF LH hin1
      clear q2 hq1 hqB hB hasc hul hn1
      -- comes
      refine q_asgL (σ := [some (.ref s), some (.ref a), some (.int (i : Int)), some (.ref nm), some (.ref a1), some (.ref p2), some (.str house), some (.str goal), some (.int (many : Nat)), y9, y10, y11, some (.ref ab), y13, y14, y15, y16, y17, y18, y19, y20, y21, y22, y23, y24, y25, y26, y27]) (el_lst ea_nil (by decide)) fun cm H12 hcm0 e12 hcm => ?_
      have d12 := d11.mono e12
      have LH12 := LH.tx (TX.of e12)
      have ncm := d11.fresh hcm0
      have hnm12 := e12 _ _ hnm11
      have nmc : nm ≠ cm := ne_of_none hnm11 hcm0
      -- for work, own
      refine ⟨by show 2 ≤ sizeLine; decide, fun t1 ht1 => ⟨by show 2 ≤ sizeLine; decide, fun t2 ht2 => ⟨by show 2 ≤ sizeLine; decide, fun wl hwl => ⟨wl, rfl, ⟨_, sq_of upd_same⟩, ?_⟩⟩⟩⟩
      have x1 : Ex H12 (upd H12 t1 (.tup [.ref f_final_state, .ref f__law_run_out])) := Ex.new ht1
      have x2 : Ex (upd H12 t1 (.tup [.ref f_final_state, .ref f__law_run_out])) (upd (upd H12 t1 (.tup [.ref f_final_state, .ref f__law_run_out])) t2 (.tup [.ref f_greatest_feasible, .ref f__law_drawn_back])) := Ex.new ht2
      have x3 : Ex (upd (upd H12 t1 (.tup [.ref f_final_state, .ref f__law_run_out])) t2 (.tup [.ref f_greatest_feasible, .ref f__law_drawn_back])) (upd (upd (upd H12 t1 (.tup [.ref f_final_state, .ref f__law_run_out])) t2 (.tup [.ref f_greatest_feasible, .ref f__law_drawn_back])) wl (.lst [.ref t1, .ref t2])) := Ex.new hwl
      have y1 := (x2.trans x3) _ _ (upd_same (H := H12) (a := t1) (o := .tup [.ref f_final_state, .ref f__law_run_out]))
      have y2' := x3 _ _ (upd_same (H := upd H12 t1 (.tup [.ref f_final_state, .ref f__law_run_out])) (a := t2) (o := .tup [.ref f_greatest_feasible, .ref f__law_drawn_back]))
      have y3' := upd_same (H := upd (upd H12 t1 (.tup [.ref f_final_state, .ref f__law_run_out])) t2 (.tup [.ref f_greatest_feasible, .ref f__law_drawn_back])) (a := wl) (o := .lst [.ref t1, .ref t2])
      have x13 := x1.trans (x2.trans x3)
      have nwc : wl ≠ cm := fun e => by
        have := (x1.trans x2) _ _ hcm
        rw [← e, hwl] at this
        cases this
      generalize upd (upd (upd H12 t1 (.tup [.ref f_final_state, .ref f__law_run_out])) t2 (.tup [.ref f_greatest_feasible, .ref f__law_drawn_back])) wl (.lst [.ref t1, .ref t2]) = H13 at y1 y2' y3' x13
      clear x1 x2 x3 ht1 ht2 hwl
      have hcm13 := x13 _ _ hcm
      refine for_list (K := K) (a := wl) (xs := [.ref t1, .ref t2]) (fun u σ' H' => ∃ (y14 y15 y16 y17 : Option V) (cs : List V), σ' = [some (.ref s), some (.ref a), some (.int (i : Int)), some (.ref nm), some (.ref a1), some (.ref p2), some (.str house), some (.str goal), some (.int (many : Nat)), y9, y10, y11, some (.ref ab), some (.ref cm), y14, y15, y16, y17, y18, y19, y20, y21, y22, y23, y24, y25, y26, y27] ∧ ExM cm H13 H' ∧ H' cm = some (.lst cs) ∧ CameTo one qs2 B goal many r0 u cs)
        ⟨_, _, _, _, [], rfl, fun b o h _ => h, hcm13, rfl⟩ (fun u σ' H' _ hP => ?_) (fun u x σ' H' hx hP => ?_) (fun σ' H' hP => ?_)
      · obtain ⟨_, _, _, _, _, _, e, _⟩ := hP
        exact sq_of (e _ _ y3' nwc)
      · obtain ⟨y14, y15, y16, y17, cs, rfl, eM, hcs, hto⟩ := hP
        have LH' := (LH12.tx (TX.of x13)).tx (eM.tx hcm13)
        have tx := eM.tx hcm13
        match u, hx, hto with
        | 0, hx, hto =>
          have hto : cs = [] := hto
          subst hto
          cases hx
          refine g_tup2 (x := .ref f_final_state) (y := .ref f__law_run_out) (tx _ _ y1) ?_
          refine work_lap (m := true) LF LH' hcs (by decide) (if_pos rfl) (if_pos rfl) fun f1 f2 k y16 y17 H14 o1 k8 hk o2 e14 h14 => ?_
          exact ⟨_, _, _, _, _, rfl, eM.trans e14, h14, f1, f2, k, ⟨o1, k8, hk, o2⟩, rfl⟩
        | 1, hx, hto =>
          obtain ⟨f1, f2, k, hC, rfl⟩ := hto
          cases hx
          refine g_tup2 (x := .ref f_greatest_feasible) (y := .ref f__law_drawn_back) (tx _ _ y2') ?_
          refine work_lap (m := false) LF LH' hcs (by show 1 ≤ 10; decide) (by unfold SOwn; rw [if_neg ne1, if_pos rfl]; rfl) (by unfold SWork; rw [if_neg ne2, if_pos rfl]; rfl) fun g1 g2 m y16 y17 H14 o1 k8 hk o2 e14 h14 => ?_
          exact ⟨_, _, _, _, _, rfl, eM.trans e14, h14, f1, f2, k, g1, g2, m, hC, ⟨o1, k8, hk, o2⟩, rfl⟩
      obtain ⟨y14, y15, y16, y17, cs, rfl, eM, hcs, hto⟩ := hP
      obtain ⟨f1, f2, k, G1, G2, m, hC, hD, rfl⟩ : ∃ f1 f2 k g1 g2 m, Came one qs2 B goal many r0 true f1 f2 k ∧ Came one qs2 B goal many r0 false g1 g2 m ∧ cs = [.int (k : Nat), .int (m : Nat)] := hto

      have tx' : TX H12 H' := (TX.of x13).trans (eM.tx hcm13)
      have LH14 := LH12.tx tx'
      have d14 := (d12.mono x13).exM eM ncm
      have hnm14 := eM _ _ (x13 _ _ hnm12) nmc
      clear eM tx' y1 y2' y3' x13 nwc hcm13 LH12 d12 hnm12
      have hc0 : ∀ {z : L2.St} {H2 : Hp}, z[13]? = some (some (.ref cm)) → Ex H' H2 → Ev (tOp (rIxL K) (tVar 13) (tC (.int 0))) z H2 (.int (k : Nat)) := fun hz e => ev_op (ev_var hz) ev_c (rv_ixL (sq_of (e _ _ hcs)) (at_of (j := 0) rfl rfl))
      have hc1 : ∀ {z : L2.St} {H2 : Hp}, z[13]? = some (some (.ref cm)) → Ex H' H2 → Ev (tOp (rIxL K) (tVar 13) (tC (.int 1))) z H2 (.int (m : Nat)) := fun hz e => ev_op (ev_var hz) ev_c (rv_ixL (sq_of (e _ _ hcs)) (at_of (j := 1) rfl rfl))
      obtain ⟨oC1, kC8, kCk, oC2⟩ := hC
      obtain ⟨oD1, kD8, kDk, oD2⟩ := hD
      have gMC := LF.goodMore kC8
      -- flows
      refine q_asgG (σ := [some (.ref s), some (.ref a), some (.int (i : Int)), some (.ref nm), some (.ref a1), some (.ref p2), some (.str house), some (.str goal), some (.int (many : Nat)), y9, y10, y11, some (.ref ab), some (.ref cm), y14, y15, y16, y17, y18, y19, y20, y21, y22, y23, y24, y25, y26, y27]) (gv_lst2 (ev_grid (K := K) (f := f1) (g := G1) (gv_q (ev_var (i := 4) rfl) LH14.q1) LF.g1 oC1 oD1) (gv_grid (K := K) (gv_more (ea_cons (ev_var (i := 5) rfl) (ea_cons (ev_var (i := 7) rfl) (ea_cons (hc0 rfl (Ex.refl _)) ea_nil))) LH14.q2 LF.g2.l40) gMC)) fun v15 H15 e15 ⟨fl, vw, Hx, hv15, ⟨fM, gM, hvw, hlM, hgM⟩, hfl⟩ => ?_
      subst hv15
      subst hvw
      have LH15 := LH14.tx (TX.of e15)
      have d15 := d14.mono e15
      have hnm15 := e15 _ _ hnm14
      have oB1 := LF.L.opt (LF.opt1 oC1) kCk (LF.opt2 oC2)
      have oB2 := LF.L.opt (LF.opt1 oD1) kDk (LF.opt2 oD2)
      have hBf : flowB B (comb qs2 house f1 k f2) (comb qs2 house G1 m G2) = true ↔ (∀ r ∈ one, r.1 ≠ house → f1 r.1 = G1 r.1) ∧ k = m ∧ KQ.EqOn qs2 f2 G2 := flow_true.trans LF.L.eq_iff
      have hb1 : flowB one f1 G1 = true ↔ ∀ r ∈ one, r.1 ≠ house → f1 r.1 = G1 r.1 := flow_true.trans (LF.L.eqOne (Opt.within (LF.opt1 oC1)) (Opt.within (LF.opt1 oD1)))
      have hkm : k = m → flowB B (comb qs2 house f1 k f2) (comb qs2 house G1 m G2) = (flowB one f1 G1 && flowB (addcash goal (k : Int) qs2) fM gM) := fun e => by
        subst e
        rw [Bool.eq_iff_iff, Bool.and_eq_true, hBf, hb1, flow_true]
        have e1 := KQ.least_eq hlM oC2
        have e2 := KQ.great_eq hgM oD2
        have h2 : KQ.EqOn (addcash goal (k : Int) qs2) fM gM ↔ KQ.EqOn qs2 f2 G2 := by
          constructor
          · intro h r hr
            have hr' := KQ.mc_in (g := fun r => if r.1 = goal then r.2.1 + (k : Int) else r.2.1) hr
            rw [← add_mc] at hr'
            have a1 := e1 _ hr'
            have a2 := e2 _ hr'
            have a3 := h _ hr'
            dsimp only at a1 a2 a3
            rw [← a1, ← a2, a3]
          · intro h q hq
            have hq' := hq
            rw [add_mc] at hq'
            obtain ⟨r, hr, rfl⟩ := KQ.mc_mem hq'
            have a1 := e1 _ hq
            have a2 := e2 _ hq
            dsimp only at a1 a2 ⊢
            rw [a1, a2, h r hr]
        rw [h2]
        constructor
        · rintro ⟨h1, _, h3⟩
          exact ⟨h1, h3⟩
        · rintro ⟨h1, h3⟩
          exact ⟨h1, rfl, h3⟩
      have hkm2 : k ≠ m → flowB B (comb qs2 house f1 k f2) (comb qs2 house G1 m G2) = false := fun e => by
        cases hb : flowB B (comb qs2 house f1 k f2) (comb qs2 house G1 m G2) with
        | false => rfl
        | true => exact absurd (hBf.mp hb).2.1 e
      have dk : decide (V.int (k : Nat) = V.int (m : Nat)) = decide (k = m) := decide_eq_decide.mpr (by rw [V.int.injEq]; omega)
      -- the first test
      refine q_when (σ := [some (.ref s), some (.ref a), some (.int (i : Int)), some (.ref nm), some (.ref a1), some (.ref p2), some (.str house), some (.str goal), some (.int (many : Nat)), y9, y10, y11, some (.ref ab), some (.ref cm), y14, y15, y16, y17, some (.ref fl), y19, y20, y21, y22, y23, y24, y25, y26, y27]) (b := false) (et_is (et_and (et_test (ev_op (hc0 rfl e15) (hc1 rfl e15) (rv_eq rfl))) (b := false) fun hkb => ?_) (Bool.and_false _)) (fun z => by cases z) fun _ H16 e16 => ?_
      · rw [dk] at hkb
        have e := hkm (of_decide_eq_true hkb)
        refine et_test (ev_is (ev_op (ev_op (ev_grid (K := K) (gv_q (ev_var (i := 12) rfl) LH15.qB) LF.gB oB1 oB2) ev_c (rv_eq rfl)) (ev_words (K := K) (ev_var (i := 18) rfl) hfl) (rv_ne rfl)) ?_)
        rw [word_eq, e, decide_eq_true rfl]
        rfl
      have LH16 := LH15.tx (TX.of e16)
      -- the second test
      refine q_when (σ := [some (.ref s), some (.ref a), some (.int (i : Int)), some (.ref nm), some (.ref a1), some (.ref p2), some (.str house), some (.str goal), some (.int (many : Nat)), y9, y10, y11, some (.ref ab), some (.ref cm), y14, y15, y16, y17, some (.ref fl), y19, y20, y21, y22, y23, y24, y25, y26, y27]) (b := false) (et_is (et_and (et_test (ev_op (hc0 rfl (e15.trans e16)) (hc1 rfl (e15.trans e16)) (rv_ne rfl))) (b := false) fun hkb => ?_) (Bool.and_false _)) (fun z => by cases z) fun _ H17 e17 => ?_
      · rw [dk, Bool.not_eq_true', decide_eq_false_iff_not] at hkb
        refine et_test (ev_is (ev_op (ev_grid (K := K) (gv_q (ev_var (i := 12) rfl) LH16.qB) LF.gB oB1 oB2) ev_c (rv_ne rfl)) ?_)
        rw [word_grid, hkm2 hkb]
        rfl
      have e1517 := e16.trans e17
      have LH17 := LH16.tx (TX.of e17)
      have d17 := d15.mono e1517
      have hnm17 := e1517 _ _ hnm15
      clear hBf hb1 hkm hkm2 oB1 oB2 hfl
      -- start
      have hzf : 0 < ((zs.take 3).filter fun z => !decide (z = house)).length := by
        obtain ⟨z, hz, hne⟩ : ∃ z ∈ zs.take 3, z ≠ house := by
          have hnd : (zs.take 3).Nodup := znd.sublist (List.take_sublist _ _)
          match hz : zs.take 3, zt, hnd with
          | [x, y, u], _, hnd =>
            by_cases e : x = house
            · refine ⟨y, by simp, fun e2 => ?_⟩
              rw [e, e2] at hnd
              simp at hnd
            · exact ⟨x, by simp, e⟩
        exact List.length_pos_iff.mpr (List.ne_nil_of_mem (List.mem_filter.mpr ⟨hz, by simp [hne]⟩))
      have hzl : ((zs.take 3).filter fun z => !decide (z = house)).length ≤ 3 := by
        have := List.length_filter_le (fun z => !decide (z = house)) (zs.take 3)
        omega
      refine do_pickL' (σ := [some (.ref s), some (.ref a), some (.int (i : Int)), some (.ref nm), some (.ref a1), some (.ref p2), some (.str house), some (.str goal), some (.int (many : Nat)), y9, y10, y11, some (.ref ab), some (.ref cm), y14, y15, y16, y17, some (.ref fl), y19, y20, y21, y22, y23, y24, y25, y26, y27]) (i := 1) rfl (el_others (K := K) (i := 6) (j := 9) (zs := zs.take 3) (el_front3 (K := K) (ev_var (i := 3) rfl) hnm17) (by omega) (by show 9 < 28; omega) (by decide) rfl (fun _ => rfl) (fun _ => rfl)) d17 (by omega) (by rw [List.length_map]; exact hzf) (by rw [List.length_map]; omega) fun vst H18 hvst d18 e18 => ?_
      obtain ⟨start, hstz, rfl⟩ := List.mem_map.mp hvst
      obtain ⟨hst1, hst2⟩ := List.mem_filter.mp hstz
      have hsh : start ≠ house := by
        rw [Bool.not_eq_true', decide_eq_false_iff_not] at hst2
        exact hst2
      have hst := (hin1 start).mp hst1
      have LH18 := LH17.tx (d17.tx e18)
      clear hstz hst1 hst2 hzf hzl hvst
      -- aim
      have W1 := LF.g1.well
      have nd1 := W1.nd
      have ndB := asc_nodup LF.gB.asc
      have nd2 := asc_nodup LF.g2.asc
      obtain ⟨bo, hao, pso, hbo, hpro⟩ := id LH18.q1
      refine do_aim (K := K) (σ := [some (.ref s), some (.ref a), some (.int (i : Int)), some (.ref nm), some (.ref a1), some (.ref p2), some (.str house), some (.str goal), some (.int (many : Nat)), y9, y10, y11, some (.ref ab), some (.ref cm), y14, y15, y16, y17, some (.ref fl), some (.str start), y20, y21, y22, y23, y24, y25, y26, y27]) (i := 1) (j := 21) rfl (fun _ => rfl) W1 d18 (by omega) (ev_houses (K := K) (ev_var (i := 4) rfl) hao) hbo hpro (by show 21 < 28; omega) (fun _ => rfl) fun pa aim H19 hpa0 e19 d19 haim hpa => ?_
      have LH19 := LH18.tx (d18.tx e19)
      -- wide
      obtain ⟨bB, haB, psB, hbB, hprB⟩ := id LH19.qB
      refine q_asgD (σ := [some (.ref s), some (.ref a), some (.int (i : Int)), some (.ref nm), some (.ref a1), some (.ref p2), some (.str house), some (.str goal), some (.int (many : Nat)), y9, y10, y11, some (.ref ab), some (.ref cm), y14, y15, y16, y17, some (.ref fl), some (.str start), some (.ref pa), y21, y22, y23, y24, y25, y26, y27]) (ed_rows (K := K) (j := 21) (fun _ => 0) ndB LF.gB.l40 (ev_houses (K := K) (ev_var (i := 12) rfl) haB) hbB hprB (by show 21 < 28; omega) (fun _ => rfl) fun p r q ps' H1 e1 hr hp hq hpr' => ev_c) fun pw H20 hpw0 e20 hpw => ?_
      have npw : pw ≠ pa := (ne_of_none hpa hpw0).symm
      refine q_upd (K := K) (σ := [some (.ref s), some (.ref a), some (.int (i : Int)), some (.ref nm), some (.ref a1), some (.ref p2), some (.str house), some (.str goal), some (.int (many : Nat)), y9, y10, y11, some (.ref ab), some (.ref cm), y14, y15, y16, y17, some (.ref fl), some (.str start), some (.ref pa), y21, some (.ref pw), y23, y24, y25, y26, y27]) hpw (e20 _ _ hpa) npw (by rw [dI_len, dI_len]; have := LF.gB.l40; have := LF.l1; omega) (ev_var (i := 22) rfl) (ev_var (i := 20) rfl) fun H21 e21 => ?_
      let gl1 : Str → Nat := fun z => if z ∈ names one then aim z else 0
      have hg1 : ∀ r ∈ one, gl1 r.1 = aim r.1 := fun r hr => if_pos (List.mem_map.mpr ⟨r, hr, rfl⟩)
      have hg2 : ∀ r ∈ qs2, gl1 r.1 = 0 := fun r hr => if_neg fun hm => by
        obtain ⟨r', hr', e⟩ := mem_name hm
        exact LF.L.dis r' hr' r hr e
      have hgh : gl1 house = 0 := by
        have h1 := haim r0 LF.L.hr
        rw [LF.L.hp, LF.L.hn] at h1
        have h2 := hg1 r0 LF.L.hr
        rw [LF.L.hn] at h2
        simp only [List.length_nil] at h1
        omega
      have hvw : ∀ R ∈ B, valV (mergeK (dI B fun _ => 0) (tolK one aim)) (Sum.inr R.1) = some (.int (gl1 R.1 : Nat)) := fun R hR => by
        by_cases hm : R.1 ∈ names one
        · obtain ⟨r, hr, e⟩ := mem_name hm
          rw [← e, hg1 r hr]
          exact merge_get (dI_nodup nd1) (List.mem_map.mpr ⟨r, hr, rfl⟩)
        · rw [show gl1 R.1 = 0 from if_neg hm, valV_merge_not fun h => ?_]
          · exact dI_at ndB hR
          · rw [dI_keys] at h
            obtain ⟨y, hy, e⟩ := List.mem_map.mp h
            exact hm (Sum.inr.inj e ▸ hy)
      have hpw21 : (upd H21 pw (.dK (mergeK (dI B fun _ => 0) (tolK one aim)))) pw = some (.dK (mergeK (dI B fun _ => 0) (tolK one aim))) := upd_same
      have e1921 : Ex H19 (upd H21 pw (.dK (mergeK (dI B fun _ => 0) (tolK one aim)))) := Ex.mut (e20.trans e21) hpw0
      generalize upd H21 pw (.dK (mergeK (dI B fun _ => 0) (tolK one aim))) = H22 at hpw21 e1921
      generalize mergeK (dI B fun _ => 0) (tolK one aim) = mk at hpw21 hvw
      have LH22 := LH19.tx (TX.of e1921)
      have d22 := d19.mono e1921
      have hpa22 := e1921 _ _ hpa
      obtain ⟨rS, hrS, rfl⟩ := mem_name hst
      have hrSB := LF.L.mem1 hrS hsh
      have hwB : KQ.Within B gl1 := fun R hR => by
        rcases LF.L.mem.mp hR with ⟨r, hr, rfl⟩ | h
        · rw [KQ.link_name]
          by_cases e : r.1 = house
          · rw [e, hgh]
            exact Nat.zero_le _
          · rw [KQ.link_ne e, hg1 r hr]
            exact haim r hr
        · rw [hg2 R h]
          exact Nat.zero_le _
      have hneed : ∀ v w, KQ.Need B (cashF B) rS.1 gl1 v → KQ.Need one (cashF one) rS.1 aim w → v = w := fun v w hv hw => by
        refine KQ.need_eq (fun u hu => ?_) hv hw
        rw [LF.L.reach1 hgh hg2]
        exact reach_congr (fun r hr => setC_congr (LF.cc1 r hr).symm) hg1
      refine q_when (σ := [some (.ref s), some (.ref a), some (.int (i : Int)), some (.ref nm), some (.ref a1), some (.ref p2), some (.str house), some (.str goal), some (.int (many : Nat)), y9, y10, y11, some (.ref ab), some (.ref cm), y14, y15, y16, y17, some (.ref fl), some (.str rS.1), some (.ref pa), y21, some (.ref pw), y23, y24, y25, y26, y27]) (b := false) (et_test (ev_neNeed (gv_need (r := rS) (f := gl1) (ev_var (i := 12) rfl) (ev_var (i := 19) rfl) (est_stateL (ea_cons (ev_var (i := 12) rfl) (ea_cons (ev_var (i := 22) rfl) ea_nil)) LH22.qB LF.gB.l40 hpw21 hvw) LH22.qB LF.gB hrSB hwB)
        (gv_need (r := rS) (f := aim) (ev_var (i := 4) rfl) (ev_var (i := 19) rfl) (est_stateL (ea_cons (ev_var (i := 4) rfl) (ea_cons (ev_var (i := 20) rfl) ea_nil)) LH22.q1 LF.g1.l40 hpa22 fun r hr => dI_at nd1 hr) LH22.q1 LF.g1 hrS haim) hneed)) (fun z => by cases z) fun _ H23 e23 => ?_
      have LH23 := LH22.tx (TX.of e23)
      have d23 := d22.mono e23
      -- paid
      obtain ⟨b2', ha2, ps2, hb2, hpr2⟩ := id LH23.q2
      refine q_asgD (σ := [some (.ref s), some (.ref a), some (.int (i : Int)), some (.ref nm), some (.ref a1), some (.ref p2), some (.str house), some (.str goal), some (.int (many : Nat)), y9, y10, y11, some (.ref ab), some (.ref cm), y14, y15, y16, y17, some (.ref fl), some (.str rS.1), some (.ref pa), y21, some (.ref pw), y23, y24, y25, y26, y27]) (ed_rows (K := K) (j := 21) (fun r => (r.2.2.length : Nat)) nd2 LF.g2.l40 (ev_houses (K := K) (ev_var (i := 5) rfl) ha2) hb2 hpr2 (by show 21 < 28; omega) (fun _ => rfl) fun p r q ps' H1 e1 hr hp hq hpr' => ev_is (ev_lenT (K := K) (ev_op (ev_var rfl) ev_c (rv_ixT (K := K) (st_of (e1 _ _ hp)) (at_of (j := 2) rfl rfl))) (st_of (e1 _ _ hq))) (by rw [List.length_map, paired_len hpr'])) fun pd H24 hpd0 e24 hpd => ?_
      have hpd' : H24 pd = some (.dK (tolK qs2 (KQ.lenOf qs2))) := by
        rw [hpd]
        congr 2
        exact dI_congr fun r hr => by rw [KQ.lenOf_at nd2 hr]
      have LH24 := LH23.tx (TX.of e24)
      have d24 := d23.mono e24
      -- wide again
      obtain ⟨bB2, haB2, psB2, hbB2, hprB2⟩ := id LH24.qB
      refine q_asgD (σ := [some (.ref s), some (.ref a), some (.int (i : Int)), some (.ref nm), some (.ref a1), some (.ref p2), some (.str house), some (.str goal), some (.int (many : Nat)), y9, y10, y11, some (.ref ab), some (.ref cm), y14, y15, y16, y17, some (.ref fl), some (.str rS.1), some (.ref pa), y21, some (.ref pw), some (.ref pd), y24, y25, y26, y27]) (ed_rows (K := K) (j := 21) (fun R => ((gl2 qs2 R.1 : Nat) : Int)) ndB LF.gB.l40 (ev_houses (K := K) (ev_var (i := 12) rfl) haB2) hbB2 hprB2 (by show 21 < 28; omega) (fun _ => rfl) fun p r q ps' H1 e1 hr hp hq hpr' => ?_) fun pw2 H25 hpw20 e25 hpw2 => ?_
      · refine ev_is (ev_get2 (k := Sum.inr r.1) (z := .int 0) (ev_var (i := 23) rfl) (ev_op (ev_var (i := 21) rfl) ev_c (rv_ixT (K := K) (st_of (e1 _ _ hp)) (at_of (j := 0) rfl rfl))) ev_c (e1 _ _ hpd')) ?_
        unfold gl2
        by_cases hm : r.1 ∈ names qs2
        · rw [if_pos hm]
          obtain ⟨r', hr', e⟩ := mem_name hm
          rw [← e, dI_at nd2 hr']
          rfl
        · rw [if_neg hm, dI_none hm]
          rfl
      have LH25 := LH24.tx (TX.of e25)
      have d25 := d24.mono e25
      have hwB2 : KQ.Within B (gl2 qs2) := fun R hR => by
        rcases LF.L.mem.mp hR with ⟨r, hr, rfl⟩ | h
        · rw [KQ.link_name, LF.gl2_one hr]
          exact Nat.zero_le _
        · rw [LF.gl2_other h]
          exact Nat.le_refl _
      -- need
      refine q_asgG (σ := [some (.ref s), some (.ref a), some (.int (i : Int)), some (.ref nm), some (.ref a1), some (.ref p2), some (.str house), some (.str goal), some (.int (many : Nat)), y9, y10, y11, some (.ref ab), some (.ref cm), y14, y15, y16, y17, some (.ref fl), some (.str rS.1), some (.ref pa), y21, some (.ref pw2), some (.ref pd), y24, y25, y26, y27]) (gv_need (r := rS) (f := gl2 qs2) (ev_var (i := 12) rfl) (ev_var (i := 19) rfl) (est_stateL (ea_cons (ev_var (i := 12) rfl) (ea_cons (ev_var (i := 22) rfl) ea_nil)) LH25.qB LF.gB.l40 hpw2 fun R hR => dI_at ndB hR) LH25.qB LF.gB hrSB hwB2) fun vn H26 e26 ⟨o, hvn, hN⟩ => ?_
      subst hvn
      have LH26 := LH25.tx (TX.of e26)
      have d26 := d25.mono e26
      have hpd26 := (e25.trans e26) _ _ hpd'
      have fin : ∀ (y10 y25 y26 y27 : Option V) H3, Ex H26 H3 → ∃ (z2 z3 z4 z5 z6 z7 z8 z9 z10 z11 z12 z13 z14 z15 z16 z17 z18 z19 z20 z21 z22 z23 z24 z25 z26 z27 : Option V), [some (.ref s), some (.ref a), some (.int (i : Int)), some (.ref nm), some (.ref a1), some (.ref p2), some (.str house), some (.str goal), some (.int (many : Nat)), y9, y10, y11, some (.ref ab), some (.ref cm), y14, y15, y16, y17, some (.ref fl), some (.str rS.1), some (.ref pa), y21, some (.ref pw2), some (.ref pd), some (optV o), y25, y26, y27] = [some (.ref s), some (.ref a), z2, z3, z4, z5, z6, z7, z8, z9, z10, z11, z12, z13, z14, z15, z16, z17, z18, z19, z20, z21, z22, z23, z24, z25, z26, z27] ∧ Dr a l c (2000 * (i + 1)) H3 := fun _ _ _ _ H3 e3 => ⟨_, _, _, _, _, _, _, _, _, _, _, _, _, _, _, _, _, _, _, _, _, _, _, _, _, _, rfl, (d26.mono e3).up (by omega)⟩
      cases o with
      | none =>
        refine s_forIf (K := K) (σ := [some (.ref s), some (.ref a), some (.int (i : Int)), some (.ref nm), some (.ref a1), some (.ref p2), some (.str house), some (.str goal), some (.int (many : Nat)), y9, y10, y11, some (.ref ab), some (.ref cm), y14, y15, y16, y17, some (.ref fl), some (.str rS.1), some (.ref pa), y21, some (.ref pw2), some (.ref pd), some .non, y25, y26, y27]) (et_need (o := none) (i := 24) rfl) fun H27 e27 => ?_
        rw [if_neg Bool.false_ne_true]
        refine ⟨10, 6, rfl, rfl, ⟨by decide, by decide, by decide⟩, .non, rfl, rfl, by show 2 ≤ sizeLine; decide, fun t1 ht1 => ⟨by show 1 ≤ sizeLine; decide, fun wl hwl => ⟨wl, rfl, ⟨_, sq_of upd_same⟩, ?_⟩⟩⟩
        have x1 := e27.trans ((Ex.new ht1).trans (Ex.new (o := .lst [.ref t1]) hwl))
        refine last_for (K := K) (ts := [t1]) (cs := [(10 ^ (6 : Int).toNat, false)]) LF (LH26.tx (TX.of x1)) (x1 _ _ hpd26) hst hsh upd_same (.cons ?_ .nil) (fun c hc => ?_) fun _ _ _ _ H3 e3 => fin _ _ _ _ H3 (x1.trans e3)
        · rw [upd_ne (ne_of_none upd_same hwl)]
          exact upd_same
        · rw [List.mem_singleton.mp hc]
          exact ⟨fun h => absurd h (hN _ (by decide)), fun h => by cases h⟩
      | some nv =>
        obtain ⟨n0, nR, nL⟩ := hN
        by_cases hpos : 0 < nv
        · refine s_forIf (K := K) (σ := [some (.ref s), some (.ref a), some (.int (i : Int)), some (.ref nm), some (.ref a1), some (.ref p2), some (.str house), some (.str goal), some (.int (many : Nat)), y9, y10, y11, some (.ref ab), some (.ref cm), y14, y15, y16, y17, some (.ref fl), some (.str rS.1), some (.ref pa), y21, some (.ref pw2), some (.ref pd), some (.int nv), y25, y26, y27]) (et_is (et_need (o := some nv) (i := 24) rfl) (decide_eq_true hpos)) fun H27 e27 => ?_
          rw [if_pos rfl]
          refine ⟨.int nv, rfl, by show 2 ≤ sizeLine; decide, fun t1 ht1 => ⟨.int nv, rfl, nv, 1, rfl, rfl, by show 2 ≤ sizeLine; decide, fun t2 ht2 => ⟨by show 2 ≤ sizeLine; decide, fun wl hwl => ⟨wl, rfl, ⟨_, sq_of upd_same⟩, ?_⟩⟩⟩⟩
          have x1 := e27.trans ((Ex.new ht1).trans ((Ex.new ht2).trans (Ex.new (o := .lst [.ref t1, .ref t2]) hwl)))
          refine last_for (K := K) (ts := [t1, t2]) (cs := [(nv, true), (nv - 1, false)]) LF (LH26.tx (TX.of x1)) (x1 _ _ hpd26) hst hsh upd_same (.cons ?_ (.cons ?_ .nil)) (fun c hc => ?_) fun _ _ _ _ H3 e3 => fin _ _ _ _ H3 (x1.trans e3)
          · exact ((Ex.new ht2).trans (Ex.new hwl)) _ _ upd_same
          · exact (Ex.new hwl) _ _ upd_same
          · rcases List.mem_cons.mp hc with e | e
            · rw [e]
              exact ⟨fun _ => rfl, fun _ => nR⟩
            · rw [List.mem_singleton.mp e]
              exact ⟨fun h => by have := nL (nv - 1) (by omega) h; omega, fun h => by cases h⟩
        · refine s_forIf (K := K) (σ := [some (.ref s), some (.ref a), some (.int (i : Int)), some (.ref nm), some (.ref a1), some (.ref p2), some (.str house), some (.str goal), some (.int (many : Nat)), y9, y10, y11, some (.ref ab), some (.ref cm), y14, y15, y16, y17, some (.ref fl), some (.str rS.1), some (.ref pa), y21, some (.ref pw2), some (.ref pd), some (.int nv), y25, y26, y27]) (et_is (et_need (o := some nv) (i := 24) rfl) (decide_eq_false hpos)) fun H27 e27 => ?_
          rw [if_neg Bool.false_ne_true]
          refine ⟨10, 6, rfl, rfl, ⟨by decide, by decide, by decide⟩, .int nv, rfl, rfl, by show 2 ≤ sizeLine; decide, fun t1 ht1 => ⟨by show 1 ≤ sizeLine; decide, fun wl hwl => ⟨wl, rfl, ⟨_, sq_of upd_same⟩, ?_⟩⟩⟩
          have x1 := e27.trans ((Ex.new ht1).trans (Ex.new (o := .lst [.ref t1]) hwl))
          refine last_for (K := K) (ts := [t1]) (cs := [(10 ^ (6 : Int).toNat, true)]) LF (LH26.tx (TX.of x1)) (x1 _ _ hpd26) hst hsh upd_same (.cons ?_ .nil) (fun c hc => ?_) fun _ _ _ _ H3 e3 => fin _ _ _ _ H3 (x1.trans e3)
          · rw [upd_ne (ne_of_none upd_same hwl)]
            exact upd_same
          · rw [List.mem_singleton.mp hc]
            refine ⟨fun _ => rfl, fun _ => KQ.reach_mono (fun r hr => KQ.setC_le ?_ r.1) nR⟩
            have : (10 : Int) ^ (6 : Int).toNat = 1000000 := by decide
            show nv ≤ (10 : Int) ^ (6 : Int).toNat
            omega
    · obtain ⟨y2, y3, y4, y5, y6, y7, y8, y9, y10, y11, y12, y13, y14, y15, y16, y17, y18, y19, y20, y21, y22, y23, y24, y25, y26, y27, rfl, d2⟩ := hP
      exact s_ret ev_c fun H3 e3 => q H3
end
end NQ
namespace NQ
open PySem PySem.Spec PyProof.Rows L2 Evl
theorem fn_ne {K : PySem.W.Frag} {f g : Addr} {oc oc' : Value} {od od' : Option Addr} {sl sl' : Array (Option Value)} {fd fd' : FuncData} (l : K.lookup f = some ⟨oc, od, .func fd, sl⟩) (l' : K.lookup g = some ⟨oc', od', .func fd', sl'⟩) (h : fd.name ≠ fd'.name) : f ≠ g := fun e => by
  subst e
  rw [l] at l'
  cases l'
  exact h rfl
theorem held_of {P : Program} {w : World} {K : PySem.W.Frag} {mg : Str → Option Value} {base : Heap} {k : Nat} {x : Str} {ps : List Str} {sp : Sp} {f : Addr} (c : Cal P w K mg base CX0 k x ps sp) (g : mg x = some (.ref f)) : Held P w K mg base k f sp := by
  obtain ⟨f', fd, F, hm, kp, b⟩ := c.ex
  rw [g] at hm
  cases hm
  exact ⟨fd, ps, F, kp, b⟩
theorem all_mk {l : PySem.W.OpenLaw} {w : World} {K : PySem.W.Frag} {h : Heap} {mg : Str → Option Value} {fa aK : Addr} (X : K.In h) (G : h.Ns mainGlobals mg) (hfa : mg "law" = some (.ref fa))
    {f0 : Addr} {od0 an0 : Option Addr} {sl0 : Array (Option Value)} {oc0 kV0 dc0 pm0 ct0 cd0 : Value}
    {f1 : Addr} {od1 an1 : Option Addr} {sl1 : Array (Option Value)} {oc1 kV1 dc1 pm1 ct1 cd1 : Value}
    {f2 : Addr} {od2 an2 : Option Addr} {sl2 : Array (Option Value)} {oc2 kV2 dc2 pm2 ct2 cd2 : Value}
    {f3 : Addr} {od3 an3 : Option Addr} {sl3 : Array (Option Value)} {oc3 kV3 dc3 pm3 ct3 cd3 : Value}
    {f4 : Addr} {od4 an4 : Option Addr} {sl4 : Array (Option Value)} {oc4 kV4 dc4 pm4 ct4 cd4 : Value}
    {f5 : Addr} {od5 an5 : Option Addr} {sl5 : Array (Option Value)} {oc5 kV5 dc5 pm5 ct5 cd5 : Value}
    {f6 : Addr} {od6 an6 : Option Addr} {sl6 : Array (Option Value)} {oc6 kV6 dc6 pm6 ct6 cd6 : Value}
    {f7 : Addr} {od7 an7 : Option Addr} {sl7 : Array (Option Value)} {oc7 kV7 dc7 pm7 ct7 cd7 : Value}
    {f8 : Addr} {od8 an8 : Option Addr} {sl8 : Array (Option Value)} {oc8 kV8 dc8 pm8 ct8 cd8 : Value}
    {f9 : Addr} {od9 an9 : Option Addr} {sl9 : Array (Option Value)} {oc9 kV9 dc9 pm9 ct9 cd9 : Value}
    {f10 : Addr} {od10 an10 : Option Addr} {sl10 : Array (Option Value)} {oc10 kV10 dc10 pm10 ct10 cd10 : Value}
    {f11 : Addr} {od11 an11 : Option Addr} {sl11 : Array (Option Value)} {oc11 kV11 dc11 pm11 ct11 cd11 : Value}
    {f12 : Addr} {od12 an12 : Option Addr} {sl12 : Array (Option Value)} {oc12 kV12 dc12 pm12 ct12 cd12 : Value}
    {f13 : Addr} {od13 an13 : Option Addr} {sl13 : Array (Option Value)} {oc13 kV13 dc13 pm13 ct13 cd13 : Value}
    {f14 : Addr} {od14 an14 : Option Addr} {sl14 : Array (Option Value)} {oc14 kV14 dc14 pm14 ct14 cd14 : Value}
    {f15 : Addr} {od15 an15 : Option Addr} {sl15 : Array (Option Value)} {oc15 kV15 dc15 pm15 ct15 cd15 : Value}
    {f16 : Addr} {od16 an16 : Option Addr} {sl16 : Array (Option Value)} {oc16 kV16 dc16 pm16 ct16 cd16 : Value}
    {f17 : Addr} {od17 an17 : Option Addr} {sl17 : Array (Option Value)} {oc17 kV17 dc17 pm17 ct17 cd17 : Value}
    {f18 : Addr} {od18 an18 : Option Addr} {sl18 : Array (Option Value)} {oc18 kV18 dc18 pm18 ct18 cd18 : Value}
    {f19 : Addr} {od19 an19 : Option Addr} {sl19 : Array (Option Value)} {oc19 kV19 dc19 pm19 ct19 cd19 : Value}
    {f20 : Addr} {od20 an20 : Option Addr} {sl20 : Array (Option Value)} {oc20 kV20 dc20 pm20 ct20 cd20 : Value}
    {f21 : Addr} {od21 an21 : Option Addr} {sl21 : Array (Option Value)} {oc21 kV21 dc21 pm21 ct21 cd21 : Value}
    {f22 : Addr} {od22 an22 : Option Addr} {sl22 : Array (Option Value)} {oc22 kV22 dc22 pm22 ct22 cd22 : Value}
    {f23 : Addr} {od23 an23 : Option Addr} {sl23 : Array (Option Value)} {oc23 kV23 dc23 pm23 ct23 cd23 : Value}
    {f24 : Addr} {od24 an24 : Option Addr} {sl24 : Array (Option Value)} {oc24 kV24 dc24 pm24 ct24 cd24 : Value}
    {f25 : Addr} {od25 an25 : Option Addr} {sl25 : Array (Option Value)} {oc25 kV25 dc25 pm25 ct25 cd25 : Value}
    {f26 : Addr} {od26 an26 : Option Addr} {sl26 : Array (Option Value)} {oc26 kV26 dc26 pm26 ct26 cd26 : Value}
    {f27 : Addr} {od27 an27 : Option Addr} {sl27 : Array (Option Value)} {oc27 kV27 dc27 pm27 ct27 cd27 : Value}
    {f28 : Addr} {od28 an28 : Option Addr} {sl28 : Array (Option Value)} {oc28 kV28 dc28 pm28 ct28 cd28 : Value}
    {f29 : Addr} {od29 an29 : Option Addr} {sl29 : Array (Option Value)} {oc29 kV29 dc29 pm29 ct29 cd29 : Value}
    {f30 : Addr} {od30 an30 : Option Addr} {sl30 : Array (Option Value)} {oc30 kV30 dc30 pm30 ct30 cd30 : Value}
    {f31 : Addr} {od31 an31 : Option Addr} {sl31 : Array (Option Value)} {oc31 kV31 dc31 pm31 ct31 cd31 : Value}
    {f32 : Addr} {od32 an32 : Option Addr} {sl32 : Array (Option Value)} {oc32 kV32 dc32 pm32 ct32 cd32 : Value}
    {f33 : Addr} {od33 an33 : Option Addr} {sl33 : Array (Option Value)} {oc33 kV33 dc33 pm33 ct33 cd33 : Value}
    {f34 : Addr} {od34 an34 : Option Addr} {sl34 : Array (Option Value)} {oc34 kV34 dc34 pm34 ct34 cd34 : Value}
    {f35 : Addr} {od35 an35 : Option Addr} {sl35 : Array (Option Value)} {oc35 kV35 dc35 pm35 ct35 cd35 : Value}
    {f36 : Addr} {od36 an36 : Option Addr} {sl36 : Array (Option Value)} {oc36 kV36 dc36 pm36 ct36 cd36 : Value}
    {f37 : Addr} {od37 an37 : Option Addr} {sl37 : Array (Option Value)} {oc37 kV37 dc37 pm37 ct37 cd37 : Value}
    {f38 : Addr} {od38 an38 : Option Addr} {sl38 : Array (Option Value)} {oc38 kV38 dc38 pm38 ct38 cd38 : Value}
    {dK : Option Addr} {itsK : Array Value} {nK : Nat} {slK : Array (Option Value)} {tl th tp tc : Tok}
    (a0 : PySem.W.nsIn K mainGlobals "is_name" = some (some (.ref f0))) (l0 : K.lookup f0 = some ⟨oc0, od0, .func (PySem.W.fnOf "is_name" "is_name" (defArgs s_is_name) (defBody s_is_name) (defScope s_is_name) .none kV0 dc0 pm0 an0 cd0 ct0), sl0⟩) (c0 : PySem.W.codeIn K cd0 "is_name" = true) (k0 : PySem.W.keepIn K (.ref f0) = true)
    (a1 : PySem.W.nsIn K mainGlobals "is_integer" = some (some (.ref f1))) (l1 : K.lookup f1 = some ⟨oc1, od1, .func (PySem.W.fnOf "is_integer" "is_integer" (defArgs s_is_integer) (defBody s_is_integer) (defScope s_is_integer) .none kV1 dc1 pm1 an1 cd1 ct1), sl1⟩) (c1 : PySem.W.codeIn K cd1 "is_integer" = true) (k1 : PySem.W.keepIn K (.ref f1) = true)
    (a2 : PySem.W.nsIn K mainGlobals "are_payments" = some (some (.ref f2))) (l2 : K.lookup f2 = some ⟨oc2, od2, .func (PySem.W.fnOf "are_payments" "are_payments" (defArgs s_are_payments) (defBody s_are_payments) (defScope s_are_payments) .none kV2 dc2 pm2 an2 cd2 ct2), sl2⟩) (c2 : PySem.W.codeIn K cd2 "are_payments" = true) (k2 : PySem.W.keepIn K (.ref f2) = true)
    (a3 : PySem.W.nsIn K mainGlobals "is_house_row" = some (some (.ref f3))) (l3 : K.lookup f3 = some ⟨oc3, od3, .func (PySem.W.fnOf "is_house_row" "is_house_row" (defArgs s_is_house_row) (defBody s_is_house_row) (defScope s_is_house_row) .none kV3 dc3 pm3 an3 cd3 ct3), sl3⟩) (c3 : PySem.W.codeIn K cd3 "is_house_row" = true) (k3 : PySem.W.keepIn K (.ref f3) = true)
    (a4 : PySem.W.nsIn K mainGlobals "is_queues" = some (some (.ref f4))) (l4 : K.lookup f4 = some ⟨oc4, od4, .func (PySem.W.fnOf "is_queues" "is_queues" (defArgs s_is_queues) (defBody s_is_queues) (defScope s_is_queues) .none kV4 dc4 pm4 an4 cd4 ct4), sl4⟩) (c4 : PySem.W.codeIn K cd4 "is_queues" = true) (k4 : PySem.W.keepIn K (.ref f4) = true)
    (a5 : PySem.W.nsIn K mainGlobals "check_queues" = some (some (.ref f5))) (l5 : K.lookup f5 = some ⟨oc5, od5, .func (PySem.W.fnOf "check_queues" "check_queues" (defArgs s_check_queues) (defBody s_check_queues) (defScope s_check_queues) .none kV5 dc5 pm5 an5 cd5 ct5), sl5⟩) (c5 : PySem.W.codeIn K cd5 "check_queues" = true) (k5 : PySem.W.keepIn K (.ref f5) = true)
    (a6 : PySem.W.nsIn K mainGlobals "is_state_of" = some (some (.ref f6))) (l6 : K.lookup f6 = some ⟨oc6, od6, .func (PySem.W.fnOf "is_state_of" "is_state_of" (defArgs s_is_state_of) (defBody s_is_state_of) (defScope s_is_state_of) .none kV6 dc6 pm6 an6 cd6 ct6), sl6⟩) (c6 : PySem.W.codeIn K cd6 "is_state_of" = true) (k6 : PySem.W.keepIn K (.ref f6) = true)
    (a7 : PySem.W.nsIn K mainGlobals "check_state" = some (some (.ref f7))) (l7 : K.lookup f7 = some ⟨oc7, od7, .func (PySem.W.fnOf "check_state" "check_state" (defArgs s_check_state) (defBody s_check_state) (defScope s_check_state) .none kV7 dc7 pm7 an7 cd7 ct7), sl7⟩) (c7 : PySem.W.codeIn K cd7 "check_state" = true) (k7 : PySem.W.keepIn K (.ref f7) = true)
    (a8 : PySem.W.nsIn K mainGlobals "number_of" = some (some (.ref f8))) (l8 : K.lookup f8 = some ⟨oc8, od8, .func (PySem.W.fnOf "number_of" "number_of" (defArgs s_number_of) (defBody s_number_of) (defScope s_number_of) .none kV8 dc8 pm8 an8 cd8 ct8), sl8⟩) (c8 : PySem.W.codeIn K cd8 "number_of" = true) (k8 : PySem.W.keepIn K (.ref f8) = true)
    (a9 : PySem.W.nsIn K mainGlobals "rich" = some (some (.ref f9))) (l9 : K.lookup f9 = some ⟨oc9, od9, .func (PySem.W.fnOf "rich" "rich" (defArgs s_rich) (defBody s_rich) (defScope s_rich) .none kV9 dc9 pm9 an9 cd9 ct9), sl9⟩) (c9 : PySem.W.codeIn K cd9 "rich" = true) (k9 : PySem.W.keepIn K (.ref f9) = true)
    (a10 : PySem.W.nsIn K mainGlobals "end_of_all" = some (some (.ref f10))) (l10 : K.lookup f10 = some ⟨oc10, od10, .func (PySem.W.fnOf "end_of_all" "end_of_all" (defArgs s_end_of_all) (defBody s_end_of_all) (defScope s_end_of_all) .none kV10 dc10 pm10 an10 cd10 ct10), sl10⟩) (c10 : PySem.W.codeIn K cd10 "end_of_all" = true) (k10 : PySem.W.keepIn K (.ref f10) = true)
    (a11 : PySem.W.nsIn K mainGlobals "is_within" = some (some (.ref f11))) (l11 : K.lookup f11 = some ⟨oc11, od11, .func (PySem.W.fnOf "is_within" "is_within" (defArgs s_is_within) (defBody s_is_within) (defScope s_is_within) .none kV11 dc11 pm11 an11 cd11 ct11), sl11⟩) (c11 : PySem.W.codeIn K cd11 "is_within" = true) (k11 : PySem.W.keepIn K (.ref f11) = true)
    (a12 : PySem.W.nsIn K mainGlobals "pays_next" = some (some (.ref f12))) (l12 : K.lookup f12 = some ⟨oc12, od12, .func (PySem.W.fnOf "pays_next" "pays_next" (defArgs s_pays_next) (defBody s_pays_next) (defScope s_pays_next) .none kV12 dc12 pm12 an12 cd12 ct12), sl12⟩) (c12 : PySem.W.codeIn K cd12 "pays_next" = true) (k12 : PySem.W.keepIn K (.ref f12) = true)
    (a13 : PySem.W.nsIn K mainGlobals "takes_back" = some (some (.ref f13))) (l13 : K.lookup f13 = some ⟨oc13, od13, .func (PySem.W.fnOf "takes_back" "takes_back" (defArgs s_takes_back) (defBody s_takes_back) (defScope s_takes_back) .none kV13 dc13 pm13 an13 cd13 ct13), sl13⟩) (c13 : PySem.W.codeIn K cd13 "takes_back" = true) (k13 : PySem.W.keepIn K (.ref f13) = true)
    (a14 : PySem.W.nsIn K mainGlobals "paying" = some (some (.ref f14))) (l14 : K.lookup f14 = some ⟨oc14, od14, .func (PySem.W.fnOf "paying" "paying" (defArgs s_paying) (defBody s_paying) (defScope s_paying) .none kV14 dc14 pm14 an14 cd14 ct14), sl14⟩) (c14 : PySem.W.codeIn K cd14 "paying" = true) (k14 : PySem.W.keepIn K (.ref f14) = true)
    (a15 : PySem.W.nsIn K mainGlobals "balance_list" = some (some (.ref f15))) (l15 : K.lookup f15 = some ⟨oc15, od15, .func (PySem.W.fnOf "balance_list" "balance_list" (defArgs s_balance_list) (defBody s_balance_list) (defScope s_balance_list) .none kV15 dc15 pm15 an15 cd15 ct15), sl15⟩) (c15 : PySem.W.codeIn K cd15 "balance_list" = true) (k15 : PySem.W.keepIn K (.ref f15) = true)
    (a16 : PySem.W.nsIn K mainGlobals "retreat_walk" = some (some (.ref f16))) (l16 : K.lookup f16 = some ⟨oc16, od16, .func (PySem.W.fnOf "retreat_walk" "retreat_walk" (defArgs s_retreat_walk) (defBody s_retreat_walk) (defScope s_retreat_walk) .none kV16 dc16 pm16 an16 cd16 ct16), sl16⟩) (c16 : PySem.W.codeIn K cd16 "retreat_walk" = true) (k16 : PySem.W.keepIn K (.ref f16) = true)
    (a17 : PySem.W.nsIn K mainGlobals "greatest_feasible" = some (some (.ref f17))) (l17 : K.lookup f17 = some ⟨oc17, od17, .func (PySem.W.fnOf "greatest_feasible" "greatest_feasible" (defArgs s_greatest_feasible) (defBody s_greatest_feasible) (defScope s_greatest_feasible) .none kV17 dc17 pm17 an17 cd17 ct17), sl17⟩) (c17 : PySem.W.codeIn K cd17 "greatest_feasible" = true) (k17 : PySem.W.keepIn K (.ref f17) = true)
    (a18 : PySem.W.nsIn K mainGlobals "run_walk" = some (some (.ref f18))) (l18 : K.lookup f18 = some ⟨oc18, od18, .func (PySem.W.fnOf "run_walk" "run_walk" (defArgs s_run_walk) (defBody s_run_walk) (defScope s_run_walk) .none kV18 dc18 pm18 an18 cd18 ct18), sl18⟩) (c18 : PySem.W.codeIn K cd18 "run_walk" = true) (k18 : PySem.W.keepIn K (.ref f18) = true)
    (a19 : PySem.W.nsIn K mainGlobals "final_state" = some (some (.ref f19))) (l19 : K.lookup f19 = some ⟨oc19, od19, .func (PySem.W.fnOf "final_state" "final_state" (defArgs s_final_state) (defBody s_final_state) (defScope s_final_state) .none kV19 dc19 pm19 an19 cd19 ct19), sl19⟩) (c19 : PySem.W.codeIn K cd19 "final_state" = true) (k19 : PySem.W.keepIn K (.ref f19) = true)
    (a20 : PySem.W.nsIn K mainGlobals "gridlock_paper" = some (some (.ref f20))) (l20 : K.lookup f20 = some ⟨oc20, od20, .func (PySem.W.fnOf "gridlock_paper" "gridlock_paper" (defArgs s_gridlock_paper) (defBody s_gridlock_paper) (defScope s_gridlock_paper) .none kV20 dc20 pm20 an20 cd20 ct20), sl20⟩) (c20 : PySem.W.codeIn K cd20 "gridlock_paper" = true) (k20 : PySem.W.keepIn K (.ref f20) = true)
    (a21 : PySem.W.nsIn K mainGlobals "check_house" = some (some (.ref f21))) (l21 : K.lookup f21 = some ⟨oc21, od21, .func (PySem.W.fnOf "check_house" "check_house" (defArgs s_check_house) (defBody s_check_house) (defScope s_check_house) .none kV21 dc21 pm21 an21 cd21 ct21), sl21⟩) (c21 : PySem.W.codeIn K cd21 "check_house" = true) (k21 : PySem.W.keepIn K (.ref f21) = true)
    (a22 : PySem.W.nsIn K mainGlobals "needed" = some (some (.ref f22))) (l22 : K.lookup f22 = some ⟨oc22, od22, .func (PySem.W.fnOf "needed" "needed" (defArgs s_needed) (defBody s_needed) (defScope s_needed) .none kV22 dc22 pm22 an22 cd22 ct22), sl22⟩) (c22 : PySem.W.codeIn K cd22 "needed" = true) (k22 : PySem.W.keepIn K (.ref f22) = true)
    (a23 : PySem.W.nsIn K mainGlobals "needed_cash" = some (some (.ref f23))) (l23 : K.lookup f23 = some ⟨oc23, od23, .func (PySem.W.fnOf "needed_cash" "needed_cash" (defArgs s_needed_cash) (defBody s_needed_cash) (defScope s_needed_cash) .none kV23 dc23 pm23 an23 cd23 ct23), sl23⟩) (c23 : PySem.W.codeIn K cd23 "needed_cash" = true) (k23 : PySem.W.keepIn K (.ref f23) = true)
    (a24 : PySem.W.nsIn K mainGlobals "_law_mixed" = some (some (.ref f24))) (l24 : K.lookup f24 = some ⟨oc24, od24, .func (PySem.W.fnOf "_law_mixed" "_law_mixed" (defArgs s__law_mixed) (defBody s__law_mixed) (defScope s__law_mixed) .none kV24 dc24 pm24 an24 cd24 ct24), sl24⟩) (c24 : PySem.W.codeIn K cd24 "_law_mixed" = true) (k24 : PySem.W.keepIn K (.ref f24) = true)
    (a25 : PySem.W.nsIn K mainGlobals "_law_take" = some (some (.ref f25))) (l25 : K.lookup f25 = some ⟨oc25, od25, .func (PySem.W.fnOf "_law_take" "_law_take" (defArgs s__law_take) (defBody s__law_take) (defScope s__law_take) .none kV25 dc25 pm25 an25 cd25 ct25), sl25⟩) (c25 : PySem.W.codeIn K cd25 "_law_take" = true) (k25 : PySem.W.keepIn K (.ref f25) = true)
    (a26 : PySem.W.nsIn K mainGlobals "_law_pick" = some (some (.ref f26))) (l26 : K.lookup f26 = some ⟨oc26, od26, .func (PySem.W.fnOf "_law_pick" "_law_pick" (defArgs s__law_pick) (defBody s__law_pick) (defScope s__law_pick) .none kV26 dc26 pm26 an26 cd26 ct26), sl26⟩) (c26 : PySem.W.codeIn K cd26 "_law_pick" = true) (k26 : PySem.W.keepIn K (.ref f26) = true)
    (a27 : PySem.W.nsIn K mainGlobals "_law_shuffled" = some (some (.ref f27))) (l27 : K.lookup f27 = some ⟨oc27, od27, .func (PySem.W.fnOf "_law_shuffled" "_law_shuffled" (defArgs s__law_shuffled) (defBody s__law_shuffled) (defScope s__law_shuffled) .none kV27 dc27 pm27 an27 cd27 ct27), sl27⟩) (c27 : PySem.W.codeIn K cd27 "_law_shuffled" = true) (k27 : PySem.W.keepIn K (.ref f27) = true)
    (a28 : PySem.W.nsIn K mainGlobals "_law_begun" = some (some (.ref f28))) (l28 : K.lookup f28 = some ⟨oc28, od28, .func (PySem.W.fnOf "_law_begun" "_law_begun" (defArgs s__law_begun) (defBody s__law_begun) (defScope s__law_begun) .none kV28 dc28 pm28 an28 cd28 ct28), sl28⟩) (c28 : PySem.W.codeIn K cd28 "_law_begun" = true) (k28 : PySem.W.keepIn K (.ref f28) = true)
    (a29 : PySem.W.nsIn K mainGlobals "_law_names" = some (some (.ref f29))) (l29 : K.lookup f29 = some ⟨oc29, od29, .func (PySem.W.fnOf "_law_names" "_law_names" (defArgs s__law_names) (defBody s__law_names) (defScope s__law_names) .none kV29 dc29 pm29 an29 cd29 ct29), sl29⟩) (c29 : PySem.W.codeIn K cd29 "_law_names" = true) (k29 : PySem.W.keepIn K (.ref f29) = true)
    (a30 : PySem.W.nsIn K mainGlobals "_law_lists" = some (some (.ref f30))) (l30 : K.lookup f30 = some ⟨oc30, od30, .func (PySem.W.fnOf "_law_lists" "_law_lists" (defArgs s__law_lists) (defBody s__law_lists) (defScope s__law_lists) .none kV30 dc30 pm30 an30 cd30 ct30), sl30⟩) (c30 : PySem.W.codeIn K cd30 "_law_lists" = true) (k30 : PySem.W.keepIn K (.ref f30) = true)
    (a31 : PySem.W.nsIn K mainGlobals "_law_state" = some (some (.ref f31))) (l31 : K.lookup f31 = some ⟨oc31, od31, .func (PySem.W.fnOf "_law_state" "_law_state" (defArgs s__law_state) (defBody s__law_state) (defScope s__law_state) .none kV31 dc31 pm31 an31 cd31 ct31), sl31⟩) (c31 : PySem.W.codeIn K cd31 "_law_state" = true) (k31 : PySem.W.keepIn K (.ref f31) = true)
    (a32 : PySem.W.nsIn K mainGlobals "_law_richer" = some (some (.ref f32))) (l32 : K.lookup f32 = some ⟨oc32, od32, .func (PySem.W.fnOf "_law_richer" "_law_richer" (defArgs s__law_richer) (defBody s__law_richer) (defScope s__law_richer) .none kV32 dc32 pm32 an32 cd32 ct32), sl32⟩) (c32 : PySem.W.codeIn K cd32 "_law_richer" = true) (k32 : PySem.W.keepIn K (.ref f32) = true)
    (a33 : PySem.W.nsIn K mainGlobals "_law_more" = some (some (.ref f33))) (l33 : K.lookup f33 = some ⟨oc33, od33, .func (PySem.W.fnOf "_law_more" "_law_more" (defArgs s__law_more) (defBody s__law_more) (defScope s__law_more) .none kV33 dc33 pm33 an33 cd33 ct33), sl33⟩) (c33 : PySem.W.codeIn K cd33 "_law_more" = true) (k33 : PySem.W.keepIn K (.ref f33) = true)
    (a34 : PySem.W.nsIn K mainGlobals "_law_held" = some (some (.ref f34))) (l34 : K.lookup f34 = some ⟨oc34, od34, .func (PySem.W.fnOf "_law_held" "_law_held" (defArgs s__law_held) (defBody s__law_held) (defScope s__law_held) .none kV34 dc34 pm34 an34 cd34 ct34), sl34⟩) (c34 : PySem.W.codeIn K cd34 "_law_held" = true) (k34 : PySem.W.keepIn K (.ref f34) = true)
    (a35 : PySem.W.nsIn K mainGlobals "_law_run_out" = some (some (.ref f35))) (l35 : K.lookup f35 = some ⟨oc35, od35, .func (PySem.W.fnOf "_law_run_out" "_law_run_out" (defArgs s__law_run_out) (defBody s__law_run_out) (defScope s__law_run_out) .none kV35 dc35 pm35 an35 cd35 ct35), sl35⟩) (c35 : PySem.W.codeIn K cd35 "_law_run_out" = true) (k35 : PySem.W.keepIn K (.ref f35) = true)
    (a36 : PySem.W.nsIn K mainGlobals "_law_drawn_back" = some (some (.ref f36))) (l36 : K.lookup f36 = some ⟨oc36, od36, .func (PySem.W.fnOf "_law_drawn_back" "_law_drawn_back" (defArgs s__law_drawn_back) (defBody s__law_drawn_back) (defScope s__law_drawn_back) .none kV36 dc36 pm36 an36 cd36 ct36), sl36⟩) (c36 : PySem.W.codeIn K cd36 "_law_drawn_back" = true) (k36 : PySem.W.keepIn K (.ref f36) = true)
    (a37 : PySem.W.nsIn K mainGlobals "_law_linked" = some (some (.ref f37))) (l37 : K.lookup f37 = some ⟨oc37, od37, .func (PySem.W.fnOf "_law_linked" "_law_linked" (defArgs s__law_linked) (defBody s__law_linked) (defScope s__law_linked) .none kV37 dc37 pm37 an37 cd37 ct37), sl37⟩) (c37 : PySem.W.codeIn K cd37 "_law_linked" = true) (k37 : PySem.W.keepIn K (.ref f37) = true)
    (a38 : PySem.W.nsIn K mainGlobals "law" = some (some (.ref f38))) (l38 : K.lookup f38 = some ⟨oc38, od38, .func (PySem.W.fnOf "law" "law" (defArgs s_law) (defBody s_law) (defScope s_law) .none kV38 dc38 pm38 an38 cd38 ct38), sl38⟩) (c38 : PySem.W.codeIn K cd38 "law" = true) (k38 : PySem.W.keepIn K (.ref f38) = true)
    (z_len : PySem.W.nsIn K mainGlobals "len" = some none)
    (z_isinstance : PySem.W.nsIn K mainGlobals "isinstance" = some none)
    (z_all : PySem.W.nsIn K mainGlobals "all" = some none)
    (z_tuple : PySem.W.nsIn K mainGlobals "tuple" = some none)
    (z_dict : PySem.W.nsIn K mainGlobals "dict" = some none)
    (z_range : PySem.W.nsIn K mainGlobals "range" = some none)
    (z_int : PySem.W.nsIn K mainGlobals "int" = some none)
    (z_str : PySem.W.nsIn K mainGlobals "str" = some none)
    (z_bool : PySem.W.nsIn K mainGlobals "bool" = some none)
    (z_list : PySem.W.nsIn K mainGlobals "list" = some none)
    (z_abs : PySem.W.nsIn K mainGlobals "abs" = some none)
    (z_min : PySem.W.nsIn K mainGlobals "min" = some none)
    (z_sorted : PySem.W.nsIn K mainGlobals "sorted" = some none)
    (z_enumerate : PySem.W.nsIn K mainGlobals "enumerate" = some none)
    (z_zip : PySem.W.nsIn K mainGlobals "zip" = some none)
    (v_LETTERS : PySem.W.nsIn K mainGlobals "LETTERS" = some (some (.str lettersS tl)))
    (v_MOST_HOUSES : PySem.W.nsIn K mainGlobals "MOST_HOUSES" = some (some (.int 40 th)))
    (v_MOST_PAYMENTS : PySem.W.nsIn K mainGlobals "MOST_PAYMENTS" = some (some (.int 60 tp)))
    (v_MOST_CASH : PySem.W.nsIn K mainGlobals "MOST_CASH" = some (some (.int 1000000 tc)))
    (aKEPT : PySem.W.nsIn K mainGlobals "KEPT" = some (some (.ref aK))) (lKEPT : K.lookup aK = some ⟨.type "tuple", dK, .seq itsK nK, slK⟩) (vKEPT : Vals (keptL.map V.str) itsK.toList) :
    ∃ fd : FuncData, (∀ (s : Shared) (v : Value), BindsTo s fd ⟨[v], []⟩ [("script", v)]) ∧ ∀ base : Heap, K.In base → base.Ns mainGlobals mg → FnOk l.prog w K mg base CX0 6 fa fd ["script"] (spLaw K) := by
  have el := hfa.symm.trans (PySem.W.mg_of X G a38)
  cases el
  have F0 := fun_mk (st := s_is_name) l0 c0 k0
  have b0 := F0.binds (ps := ["thing"]) fun _ _ _ _ _ _ us hl => match us, hl with | [_], _ => rfl
  have g0 := PySem.W.mg_of X G a0
  have F1 := fun_mk (st := s_is_integer) l1 c1 k1
  have b1 := F1.binds (ps := ["thing", "low", "high"]) fun _ _ _ _ _ _ us hl => match us, hl with | [_, _, _], _ => rfl
  have g1 := PySem.W.mg_of X G a1
  have F2 := fun_mk (st := s_are_payments) l2 c2 k2
  have b2 := F2.binds (ps := ["thing", "house", "names"]) fun _ _ _ _ _ _ us hl => match us, hl with | [_, _, _], _ => rfl
  have g2 := PySem.W.mg_of X G a2
  have F3 := fun_mk (st := s_is_house_row) l3 c3 k3
  have b3 := F3.binds (ps := ["thing"]) fun _ _ _ _ _ _ us hl => match us, hl with | [_], _ => rfl
  have g3 := PySem.W.mg_of X G a3
  have F4 := fun_mk (st := s_is_queues) l4 c4 k4
  have b4 := F4.binds (ps := ["value"]) fun _ _ _ _ _ _ us hl => match us, hl with | [_], _ => rfl
  have g4 := PySem.W.mg_of X G a4
  have F5 := fun_mk (st := s_check_queues) l5 c5 k5
  have b5 := F5.binds (ps := ["queues"]) fun _ _ _ _ _ _ us hl => match us, hl with | [_], _ => rfl
  have g5 := PySem.W.mg_of X G a5
  have F6 := fun_mk (st := s_is_state_of) l6 c6 k6
  have b6 := F6.binds (ps := ["queues", "thing"]) fun _ _ _ _ _ _ us hl => match us, hl with | [_, _], _ => rfl
  have g6 := PySem.W.mg_of X G a6
  have F7 := fun_mk (st := s_check_state) l7 c7 k7
  have b7 := F7.binds (ps := ["queues", "state"]) fun _ _ _ _ _ _ us hl => match us, hl with | [_, _], _ => rfl
  have g7 := PySem.W.mg_of X G a7
  have F8 := fun_mk (st := s_number_of) l8 c8 k8
  have b8 := F8.binds (ps := ["queues"]) fun _ _ _ _ _ _ us hl => match us, hl with | [_], _ => rfl
  have g8 := PySem.W.mg_of X G a8
  have F9 := fun_mk (st := s_rich) l9 c9 k9
  have b9 := F9.binds (ps := ["queues", "cash"]) fun _ _ _ _ _ _ us hl => match us, hl with | [_, _], _ => rfl
  have g9 := PySem.W.mg_of X G a9
  have F10 := fun_mk (st := s_end_of_all) l10 c10 k10
  have b10 := F10.binds (ps := ["queues"]) fun _ _ _ _ _ _ us hl => match us, hl with | [_], _ => rfl
  have g10 := PySem.W.mg_of X G a10
  have F11 := fun_mk (st := s_is_within) l11 c11 k11
  have b11 := F11.binds (ps := ["one", "other"]) fun _ _ _ _ _ _ us hl => match us, hl with | [_, _], _ => rfl
  have g11 := PySem.W.mg_of X G a11
  have F12 := fun_mk (st := s_pays_next) l12 c12 k12
  have b12 := F12.binds (ps := ["queues", "numbers", "state", "balances", "at"]) fun _ _ _ _ _ _ us hl => match us, hl with | [_, _, _, _, _], _ => rfl
  have g12 := PySem.W.mg_of X G a12
  have F13 := fun_mk (st := s_takes_back) l13 c13 k13
  have b13 := F13.binds (ps := ["queues", "numbers", "state", "balances", "at"]) fun _ _ _ _ _ _ us hl => match us, hl with | [_, _, _, _, _], _ => rfl
  have g13 := PySem.W.mg_of X G a13
  have F14 := fun_mk (st := s_paying) l14 c14 k14
  have b14 := F14.binds (ps := ["queues", "state", "balances"]) fun _ _ _ _ _ _ us hl => match us, hl with | [_, _, _], _ => rfl
  have g14 := PySem.W.mg_of X G a14
  have F15 := fun_mk (st := s_balance_list) l15 c15 k15
  have b15 := F15.binds (ps := ["queues", "state"]) fun _ _ _ _ _ _ us hl => match us, hl with | [_, _], _ => rfl
  have g15 := PySem.W.mg_of X G a15
  have F16 := fun_mk (st := s_retreat_walk) l16 c16 k16
  have b16 := F16.binds (ps := ["queues"]) fun _ _ _ _ _ _ us hl => match us, hl with | [_], _ => rfl
  have g16 := PySem.W.mg_of X G a16
  have F17 := fun_mk (st := s_greatest_feasible) l17 c17 k17
  have b17 := F17.binds (ps := ["queues"]) fun _ _ _ _ _ _ us hl => match us, hl with | [_], _ => rfl
  have g17 := PySem.W.mg_of X G a17
  have F18 := fun_mk (st := s_run_walk) l18 c18 k18
  have b18 := F18.binds (ps := ["queues"]) fun _ _ _ _ _ _ us hl => match us, hl with | [_], _ => rfl
  have g18 := PySem.W.mg_of X G a18
  have F19 := fun_mk (st := s_final_state) l19 c19 k19
  have b19 := F19.binds (ps := ["queues"]) fun _ _ _ _ _ _ us hl => match us, hl with | [_], _ => rfl
  have g19 := PySem.W.mg_of X G a19
  have F20 := fun_mk (st := s_gridlock_paper) l20 c20 k20
  have b20 := F20.binds (ps := ["queues"]) fun _ _ _ _ _ _ us hl => match us, hl with | [_], _ => rfl
  have g20 := PySem.W.mg_of X G a20
  have F21 := fun_mk (st := s_check_house) l21 c21 k21
  have b21 := F21.binds (ps := ["queues", "house"]) fun _ _ _ _ _ _ us hl => match us, hl with | [_, _], _ => rfl
  have g21 := PySem.W.mg_of X G a21
  have F22 := fun_mk (st := s_needed) l22 c22 k22
  have b22 := F22.binds (ps := ["queues", "house", "goal"]) fun _ _ _ _ _ _ us hl => match us, hl with | [_, _, _], _ => rfl
  have g22 := PySem.W.mg_of X G a22
  have F23 := fun_mk (st := s_needed_cash) l23 c23 k23
  have b23 := F23.binds (ps := ["queues", "house", "goal"]) fun _ _ _ _ _ _ us hl => match us, hl with | [_, _, _], _ => rfl
  have g23 := PySem.W.mg_of X G a23
  have F24 := fun_mk (st := s__law_mixed) l24 c24 k24
  have b24 := F24.binds (ps := ["draw"]) fun _ _ _ _ _ _ us hl => match us, hl with | [_], _ => rfl
  have g24 := PySem.W.mg_of X G a24
  have F25 := fun_mk (st := s__law_take) l25 c25 k25
  have b25 := F25.binds (ps := ["draw", "many"]) fun _ _ _ _ _ _ us hl => match us, hl with | [_, _], _ => rfl
  have g25 := PySem.W.mg_of X G a25
  have F26 := fun_mk (st := s__law_pick) l26 c26 k26
  have b26 := F26.binds (ps := ["draw", "some"]) fun _ _ _ _ _ _ us hl => match us, hl with | [_, _], _ => rfl
  have g26 := PySem.W.mg_of X G a26
  have F27 := fun_mk (st := s__law_shuffled) l27 c27 k27
  have b27 := F27.binds (ps := ["draw", "some"]) fun _ _ _ _ _ _ us hl => match us, hl with | [_, _], _ => rfl
  have g27 := PySem.W.mg_of X G a27
  have F28 := fun_mk (st := s__law_begun) l28 c28 k28
  have b28 := F28.binds (ps := ["script"]) fun _ _ _ _ _ _ us hl => match us, hl with | [_], _ => rfl
  have g28 := PySem.W.mg_of X G a28
  have F29 := fun_mk (st := s__law_names) l29 c29 k29
  have b29 := F29.binds (ps := ["draw", "many"]) fun _ _ _ _ _ _ us hl => match us, hl with | [_, _], _ => rfl
  have g29 := PySem.W.mg_of X G a29
  have F30 := fun_mk (st := s__law_lists) l30 c30 k30
  have b30 := F30.binds (ps := ["draw", "names", "most", "top"]) fun _ _ _ _ _ _ us hl => match us, hl with | [_, _, _, _], _ => rfl
  have g30 := PySem.W.mg_of X G a30
  have F31 := fun_mk (st := s__law_state) l31 c31 k31
  have b31 := F31.binds (ps := ["queues", "told"]) fun _ _ _ _ _ _ us hl => match us, hl with | [_, _], _ => rfl
  have g31 := PySem.W.mg_of X G a31
  have F32 := fun_mk (st := s__law_richer) l32 c32 k32
  have b32 := F32.binds (ps := ["queues", "house", "cash"]) fun _ _ _ _ _ _ us hl => match us, hl with | [_, _, _], _ => rfl
  have g32 := PySem.W.mg_of X G a32
  have F33 := fun_mk (st := s__law_more) l33 c33 k33
  have b33 := F33.binds (ps := ["queues", "house", "cash"]) fun _ _ _ _ _ _ us hl => match us, hl with | [_, _, _], _ => rfl
  have g33 := PySem.W.mg_of X G a33
  have F34 := fun_mk (st := s__law_held) l34 c34 k34
  have b34 := F34.binds (ps := ["queues", "told"]) fun _ _ _ _ _ _ us hl => match us, hl with | [_, _], _ => rfl
  have g34 := PySem.W.mg_of X G a34
  have F35 := fun_mk (st := s__law_run_out) l35 c35 k35
  have b35 := F35.binds (ps := ["queues"]) fun _ _ _ _ _ _ us hl => match us, hl with | [_], _ => rfl
  have g35 := PySem.W.mg_of X G a35
  have F36 := fun_mk (st := s__law_drawn_back) l36 c36 k36
  have b36 := F36.binds (ps := ["queues"]) fun _ _ _ _ _ _ us hl => match us, hl with | [_], _ => rfl
  have g36 := PySem.W.mg_of X G a36
  have F37 := fun_mk (st := s__law_linked) l37 c37 k37
  have b37 := F37.binds (ps := ["one", "other", "house", "goal", "many"]) fun _ _ _ _ _ _ us hl => match us, hl with | [_, _, _, _, _], _ => rfl
  have g37 := PySem.W.mg_of X G a37
  have F38 := fun_mk (st := s_law) l38 c38 k38
  have len : itsK.size ≤ sizeLine := by
    have z := vKEPT.length
    have e : itsK.size = itsK.toList.length := by simp
    rw [e, ← z]
    exact sz_of (by decide)
  have T : Tx K mg aK ⟨tl, th, tp, tc⟩ := { len := PySem.W.mg_none_of X G z_len, isinstance := PySem.W.mg_none_of X G z_isinstance, all := PySem.W.mg_none_of X G z_all, tuple := PySem.W.mg_none_of X G z_tuple, dict := PySem.W.mg_none_of X G z_dict, range := PySem.W.mg_none_of X G z_range, int := PySem.W.mg_none_of X G z_int, str := PySem.W.mg_none_of X G z_str, bool := PySem.W.mg_none_of X G z_bool, list := PySem.W.mg_none_of X G z_list, abs := PySem.W.mg_none_of X G z_abs, min := PySem.W.mg_none_of X G z_min, sorted := PySem.W.mg_none_of X G z_sorted, enumerate := PySem.W.mg_none_of X G z_enumerate, zip := PySem.W.mg_none_of X G z_zip, g_KEPT := PySem.W.mg_of X G aKEPT, g_LETTERS := PySem.W.mg_of X G v_LETTERS, g_MOST_HOUSES := PySem.W.mg_of X G v_MOST_HOUSES, g_MOST_PAYMENTS := PySem.W.mg_of X G v_MOST_PAYMENTS, g_MOST_CASH := PySem.W.mg_of X G v_MOST_CASH, k_KEPT := ⟨_, itsK, nK, lKEPT, rfl, rfl, len, vKEPT⟩ }
  refine ⟨PySem.W.fnOf "law" "law" (defArgs s_law) (defBody s_law) (defScope s_law) .none kV38 dc38 pm38 an38 cd38 ct38, fun s v => .of_eq rfl, fun base _ _ => ?_⟩
  have c_is_name : Cal l.prog w K mg base CX0 1 "is_name" ["thing"] (spB PreName) := ⟨_, _, ok_is_name F0 T, g0, k0, b0⟩
  have c_is_integer : Cal l.prog w K mg base CX0 1 "is_integer" ["thing", "low", "high"] (spB PreInt) := ⟨_, _, ok_is_integer F1 T, g1, k1, b1⟩
  have c_are_payments : Cal l.prog w K mg base CX0 2 "are_payments" ["thing", "house", "names"] (spB PrePays) := ⟨_, _, ok_are_payments F2 T c_is_integer, g2, k2, b2⟩
  have c_is_house_row : Cal l.prog w K mg base CX0 2 "is_house_row" ["thing"] (spB PreRow) := ⟨_, _, ok_is_house_row F3 T c_is_integer c_is_name, g3, k3, b3⟩
  have c_is_queues : Cal l.prog w K mg base CX0 3 "is_queues" ["value"] (spB PreQ) := ⟨_, _, ok_is_queues F4 T c_are_payments c_is_house_row, g4, k4, b4⟩
  have c_check_queues : Cal l.prog w K mg base CX0 4 "check_queues" ["queues"] (spN PreQ) := ⟨_, _, ok_check_queues F5 T c_is_queues, g5, k5, b5⟩
  have c_is_state_of : Cal l.prog w K mg base CX0 2 "is_state_of" ["queues", "thing"] (spB PreSt) := ⟨_, _, ok_is_state_of F6 T c_is_integer, g6, k6, b6⟩
  have c_check_state : Cal l.prog w K mg base CX0 3 "check_state" ["queues", "state"] (spN PreSt) := ⟨_, _, ok_check_state F7 T c_is_state_of, g7, k7, b7⟩
  have c_number_of : Cal l.prog w K mg base CX0 1 "number_of" ["queues"] spNum := ⟨_, _, ok_number_of F8 T, g8, k8, b8⟩
  have c_rich : Cal l.prog w K mg base CX0 1 "rich" ["queues", "cash"] spRich := ⟨_, _, ok_rich F9 T, g9, k9, b9⟩
  have c_end_of_all : Cal l.prog w K mg base CX0 1 "end_of_all" ["queues"] spEnd := ⟨_, _, ok_end_of_all F10 T, g10, k10, b10⟩
  have c_is_within : Cal l.prog w K mg base CX0 1 "is_within" ["one", "other"] spWith := ⟨_, _, ok_is_within F11 T, g11, k11, b11⟩
  have c_pays_next : Cal l.prog w K mg base CX0 1 "pays_next" ["queues", "numbers", "state", "balances", "at"] spPay := ⟨_, _, ok_pays_next F12 T, g12, k12, b12⟩
  have c_takes_back : Cal l.prog w K mg base CX0 1 "takes_back" ["queues", "numbers", "state", "balances", "at"] spBack := ⟨_, _, ok_takes_back F13 T, g13, k13, b13⟩
  have c_paying : Cal l.prog w K mg base CX0 1 "paying" ["queues", "state", "balances"] spPaying := ⟨_, _, ok_paying F14 T, g14, k14, b14⟩
  have c_balance_list : Cal l.prog w K mg base CX0 2 "balance_list" ["queues", "state"] spBal := ⟨_, _, ok_balance_list F15 T c_number_of, g15, k15, b15⟩
  have c_retreat_walk : Cal l.prog w K mg base CX0 3 "retreat_walk" ["queues"] spRet := ⟨_, _, ok_retreat_walk F16 T c_number_of c_end_of_all c_balance_list c_takes_back, g16, k16, b16⟩
  have c_greatest_feasible : Cal l.prog w K mg base CX0 5 "greatest_feasible" ["queues"] spGre := ⟨_, _, ok_greatest_feasible F17 T c_check_queues c_retreat_walk, g17, k17, b17⟩
  have c_run_walk : Cal l.prog w K mg base CX0 3 "run_walk" ["queues"] spRun := ⟨_, _, ok_run_walk F18 T c_number_of c_balance_list c_paying c_pays_next, g18, k18, b18⟩
  have c_final_state : Cal l.prog w K mg base CX0 5 "final_state" ["queues"] spFin := ⟨_, _, ok_final_state F19 T c_check_queues c_run_walk, g19, k19, b19⟩
  have c_gridlock_paper : Cal l.prog w K mg base CX0 5 "gridlock_paper" ["queues"] spGrid := ⟨_, _, ok_gridlock_paper F20 T c_check_queues c_retreat_walk c_run_walk, g20, k20, b20⟩
  have c_check_house : Cal l.prog w K mg base CX0 2 "check_house" ["queues", "house"] (spN PreHouse) := ⟨_, _, ok_check_house F21 T c_number_of, g21, k21, b21⟩
  have c_needed : Cal l.prog w K mg base CX0 3 "needed" ["queues", "house", "goal"] spNeeded := ⟨_, _, ok_needed F22 T c_rich c_number_of c_balance_list c_is_within c_paying c_pays_next, g22, k22, b22⟩
  have c_needed_cash : Cal l.prog w K mg base CX0 5 "needed_cash" ["queues", "house", "goal"] spNeed := ⟨_, _, ok_needed_cash F23 T c_check_queues c_check_house c_check_state c_needed, g23, k23, b23⟩
  have c__law_mixed : Cal l.prog w K mg base CX0 1 "_law_mixed" ["draw"] spMixed := ⟨_, _, ok__law_mixed F24 T, g24, k24, b24⟩
  have c__law_take : Cal l.prog w K mg base CX0 2 "_law_take" ["draw", "many"] spTake := ⟨_, _, ok__law_take F25 T c__law_mixed, g25, k25, b25⟩
  have c__law_pick : Cal l.prog w K mg base CX0 3 "_law_pick" ["draw", "some"] spPick := ⟨_, _, ok__law_pick F26 T c__law_take, g26, k26, b26⟩
  have c__law_shuffled : Cal l.prog w K mg base CX0 3 "_law_shuffled" ["draw", "some"] spShuf := ⟨_, _, ok__law_shuffled F27 T c__law_take, g27, k27, b27⟩
  have c__law_begun : Cal l.prog w K mg base CX0 1 "_law_begun" ["script"] (spBegun K) := ⟨_, _, ok__law_begun F28 T, g28, k28, b28⟩
  have c__law_names : Cal l.prog w K mg base CX0 4 "_law_names" ["draw", "many"] spNames := ⟨_, _, ok__law_names F29 T c__law_take c__law_pick, g29, k29, b29⟩
  have c__law_lists : Cal l.prog w K mg base CX0 4 "_law_lists" ["draw", "names", "most", "top"] spLists := ⟨_, _, ok__law_lists F30 T c__law_take c__law_pick c__law_shuffled, g30, k30, b30⟩
  have c__law_state : Cal l.prog w K mg base CX0 1 "_law_state" ["queues", "told"] spStateL := ⟨_, _, ok__law_state F31 T, g31, k31, b31⟩
  have c__law_richer : Cal l.prog w K mg base CX0 1 "_law_richer" ["queues", "house", "cash"] spRicher := ⟨_, _, ok__law_richer F32 T, g32, k32, b32⟩
  have c__law_more : Cal l.prog w K mg base CX0 1 "_law_more" ["queues", "house", "cash"] spMore := ⟨_, _, ok__law_more F33 T, g33, k33, b33⟩
  have c__law_held : Cal l.prog w K mg base CX0 1 "_law_held" ["queues", "told"] spHeldL := ⟨_, _, ok__law_held F34 T, g34, k34, b34⟩
  have c__law_run_out : Cal l.prog w K mg base CX0 2 "_law_run_out" ["queues"] spRunL := ⟨_, _, ok__law_run_out F35 T c__law_held, g35, k35, b35⟩
  have c__law_drawn_back : Cal l.prog w K mg base CX0 2 "_law_drawn_back" ["queues"] spBackL := ⟨_, _, ok__law_drawn_back F36 T c__law_held, g36, k36, b36⟩
  have c__law_linked : Cal l.prog w K mg base CX0 1 "_law_linked" ["one", "other", "house", "goal", "many"] spLink := ⟨_, _, ok__law_linked F37 T, g37, k37, b37⟩
  refine ok_law F38 T g19 g35 g17 g36 (fn_ne l36 l35 (show ("_law_drawn_back" : Str) ≠ "_law_run_out" by decide +kernel)) (fn_ne l17 l19 (show ("greatest_feasible" : Str) ≠ "final_state" by decide +kernel)) (fun fa sp h => ?_) (fun fa sp h => ?_) c__law_begun c__law_take c__law_pick c__law_names c__law_lists c__law_state c__law_held c__law_run_out c__law_richer c__law_linked c__law_more c_gridlock_paper c_needed_cash
  · unfold SOwn at h
    split at h
    · rename_i e
      cases h
      rw [e]
      exact held_of c__law_run_out g35
    · split at h
      · rename_i e
        cases h
        rw [e]
        exact held_of c__law_drawn_back g36
      · cases h
  · unfold SWork at h
    split at h
    · rename_i e
      cases h
      rw [e]
      exact held_of c_final_state g19
    · split at h
      · rename_i e
        cases h
        rw [e]
        exact held_of c_greatest_feasible g17
      · cases h
end NQ
open PySem PySem.W PyProof.Rows
set_option maxHeartbeats 0 in
theorem PySem.Challenge.cw_noringgains_k43_whole_queues_one_behind_holds : PySem.Challenge.rw_noringgains_k43_whole_queues_one_behind.Holds := by
  w_on; o_law; k_head; (case hw => w_witness2)
  k_fill
  refine L2.walk_of (l := PySem.Challenge.rw_noringgains_k43_whole_queues_one_behind) (n := 63) (k := 6) (x := "script") (CX := fun _ => L2.CX0) (sp := fun w => NQ.spLaw _) rfl (by decide) rfl ⟨rfl, by decide, by decide⟩ (fun w h Y => by first | exact PySem.W.kIn_of Y | exact PySem.W.km_in_of Y) ?F (fun _ _ a ns hl _ hS => ⟨a, ns, rfl, hS, hl, fun _ => rfl⟩) (fun _ _ _ _ _ h => h)
  case F =>
    intro w mg fa h KX G hmg
    refine' NQ.all_mk KX G hmg ?a0 ?l0 ?c0 ?k0 ?a1 ?l1 ?c1 ?k1 ?a2 ?l2 ?c2 ?k2 ?a3 ?l3 ?c3 ?k3 ?a4 ?l4 ?c4 ?k4 ?a5 ?l5 ?c5 ?k5 ?a6 ?l6 ?c6 ?k6 ?a7 ?l7 ?c7 ?k7 ?a8 ?l8 ?c8 ?k8 ?a9 ?l9 ?c9 ?k9 ?a10 ?l10 ?c10 ?k10 ?a11 ?l11 ?c11 ?k11 ?a12 ?l12 ?c12 ?k12 ?a13 ?l13 ?c13 ?k13 ?a14 ?l14 ?c14 ?k14 ?a15 ?l15 ?c15 ?k15 ?a16 ?l16 ?c16 ?k16 ?a17 ?l17 ?c17 ?k17 ?a18 ?l18 ?c18 ?k18 ?a19 ?l19 ?c19 ?k19 ?a20 ?l20 ?c20 ?k20 ?a21 ?l21 ?c21 ?k21 ?a22 ?l22 ?c22 ?k22 ?a23 ?l23 ?c23 ?k23 ?a24 ?l24 ?c24 ?k24 ?a25 ?l25 ?c25 ?k25 ?a26 ?l26 ?c26 ?k26 ?a27 ?l27 ?c27 ?k27 ?a28 ?l28 ?c28 ?k28 ?a29 ?l29 ?c29 ?k29 ?a30 ?l30 ?c30 ?k30 ?a31 ?l31 ?c31 ?k31 ?a32 ?l32 ?c32 ?k32 ?a33 ?l33 ?c33 ?k33 ?a34 ?l34 ?c34 ?k34 ?a35 ?l35 ?c35 ?k35 ?a36 ?l36 ?c36 ?k36 ?a37 ?l37 ?c37 ?k37 ?a38 ?l38 ?c38 ?k38 ?z_len ?z_isinstance ?z_all ?z_tuple ?z_dict ?z_range ?z_int ?z_str ?z_bool ?z_list ?z_abs ?z_min ?z_sorted ?z_enumerate ?z_zip ?v_LETTERS ?v_MOST_HOUSES ?v_MOST_PAYMENTS ?v_MOST_CASH ?aKEPT ?lKEPT ?vKEPT
    (case a0 => k_is)
    (case l0 => k_is)
    (case c0 => k_is)
    (case k0 => k_is)
    (case a1 => k_is)
    (case l1 => k_is)
    (case c1 => k_is)
    (case k1 => k_is)
    (case a2 => k_is)
    (case l2 => k_is)
    (case c2 => k_is)
    (case k2 => k_is)
    (case a3 => k_is)
    (case l3 => k_is)
    (case c3 => k_is)
    (case k3 => k_is)
    (case a4 => k_is)
    (case l4 => k_is)
    (case c4 => k_is)
    (case k4 => k_is)
    (case a5 => k_is)
    (case l5 => k_is)
    (case c5 => k_is)
    (case k5 => k_is)
    (case a6 => k_is)
    (case l6 => k_is)
    (case c6 => k_is)
    (case k6 => k_is)
    (case a7 => k_is)
    (case l7 => k_is)
    (case c7 => k_is)
    (case k7 => k_is)
    (case a8 => k_is)
    (case l8 => k_is)
    (case c8 => k_is)
    (case k8 => k_is)
    (case a9 => k_is)
    (case l9 => k_is)
    (case c9 => k_is)
    (case k9 => k_is)
    (case a10 => k_is)
    (case l10 => k_is)
    (case c10 => k_is)
    (case k10 => k_is)
    (case a11 => k_is)
    (case l11 => k_is)
    (case c11 => k_is)
    (case k11 => k_is)
    (case a12 => k_is)
    (case l12 => k_is)
    (case c12 => k_is)
    (case k12 => k_is)
    (case a13 => k_is)
    (case l13 => k_is)
    (case c13 => k_is)
    (case k13 => k_is)
    (case a14 => k_is)
    (case l14 => k_is)
    (case c14 => k_is)
    (case k14 => k_is)
    (case a15 => k_is)
    (case l15 => k_is)
    (case c15 => k_is)
    (case k15 => k_is)
    (case a16 => k_is)
    (case l16 => k_is)
    (case c16 => k_is)
    (case k16 => k_is)
    (case a17 => k_is)
    (case l17 => k_is)
    (case c17 => k_is)
    (case k17 => k_is)
    (case a18 => k_is)
    (case l18 => k_is)
    (case c18 => k_is)
    (case k18 => k_is)
    (case a19 => k_is)
    (case l19 => k_is)
    (case c19 => k_is)
    (case k19 => k_is)
    (case a20 => k_is)
    (case l20 => k_is)
    (case c20 => k_is)
    (case k20 => k_is)
    (case a21 => k_is)
    (case l21 => k_is)
    (case c21 => k_is)
    (case k21 => k_is)
    (case a22 => k_is)
    (case l22 => k_is)
    (case c22 => k_is)
    (case k22 => k_is)
    (case a23 => k_is)
    (case l23 => k_is)
    (case c23 => k_is)
    (case k23 => k_is)
    (case a24 => k_is)
    (case l24 => k_is)
    (case c24 => k_is)
    (case k24 => k_is)
    (case a25 => k_is)
    (case l25 => k_is)
    (case c25 => k_is)
    (case k25 => k_is)
    (case a26 => k_is)
    (case l26 => k_is)
    (case c26 => k_is)
    (case k26 => k_is)
    (case a27 => k_is)
    (case l27 => k_is)
    (case c27 => k_is)
    (case k27 => k_is)
    (case a28 => k_is)
    (case l28 => k_is)
    (case c28 => k_is)
    (case k28 => k_is)
    (case a29 => k_is)
    (case l29 => k_is)
    (case c29 => k_is)
    (case k29 => k_is)
    (case a30 => k_is)
    (case l30 => k_is)
    (case c30 => k_is)
    (case k30 => k_is)
    (case a31 => k_is)
    (case l31 => k_is)
    (case c31 => k_is)
    (case k31 => k_is)
    (case a32 => k_is)
    (case l32 => k_is)
    (case c32 => k_is)
    (case k32 => k_is)
    (case a33 => k_is)
    (case l33 => k_is)
    (case c33 => k_is)
    (case k33 => k_is)
    (case a34 => k_is)
    (case l34 => k_is)
    (case c34 => k_is)
    (case k34 => k_is)
    (case a35 => k_is)
    (case l35 => k_is)
    (case c35 => k_is)
    (case k35 => k_is)
    (case a36 => k_is)
    (case l36 => k_is)
    (case c36 => k_is)
    (case k36 => k_is)
    (case a37 => k_is)
    (case l37 => k_is)
    (case c37 => k_is)
    (case k37 => k_is)
    (case a38 => k_is)
    (case l38 => k_is)
    (case c38 => k_is)
    (case k38 => k_is)
    (case z_len => k_is)
    (case z_isinstance => k_is)
    (case z_all => k_is)
    (case z_tuple => k_is)
    (case z_dict => k_is)
    (case z_range => k_is)
    (case z_int => k_is)
    (case z_str => k_is)
    (case z_bool => k_is)
    (case z_list => k_is)
    (case z_abs => k_is)
    (case z_min => k_is)
    (case z_sorted => k_is)
    (case z_enumerate => k_is)
    (case z_zip => k_is)
    (case v_LETTERS => k_is)
    (case v_MOST_HOUSES => k_is)
    (case v_MOST_PAYMENTS => k_is)
    (case v_MOST_CASH => k_is)
    (case aKEPT => k_is)
    (case lKEPT => k_is)
    (case vKEPT => repeat (first | exact .nil | refine .cons ⟨_, rfl⟩ ?_))
