import PyProof.Rows.All
import Wide.All
import OpenK.AllK
import Wide.FinOn
import PySem.Challenge.RW_noringgains_k42_whole_queues_through_ano
import HandS.Zip
import HandS.ForMost
import KE.GoesMore
import KE.GoesZip
import PyProof.EnumMake
import PyProof.ReprRoads
import KE.KDictPairs
import HandS.IsInst
import HandS.DictComp
import HandS.Style
import HandS.Conv
import HandS.WordsExc
import HandS.Lambda
import HandS.EndTab
import HandS.CallLocal
import HandS.TupMul
import HandS.SortRule
import HandS.Evl
import HandS.NoneIn
import HandS.TupAny
import HandS.Walk
import KE.KEqDeep
import PyProof.P3Eq
set_option Elab.async false
set_option linter.all false
set_option maxRecDepth 100000
set_option maxHeartbeats 8000000
namespace KQ
variable {α : Type} [DecidableEq α]
/-- a house: name, cash, payments (creditor, amount) -/
abbrev Row (α : Type) := α × Int × List (α × Int)
/-- what goes out with the first k payments, what comes to z with them -/
def outS (p : List (α × Int)) (k : Nat) : Int := ((p.take k).map fun x => x.2).sum
def inS (p : List (α × Int)) (k : Nat) (z : α) : Int := ((p.take k).map fun x => if x.1 = z then x.2 else 0).sum
def got (qs : List (Row α)) (f : α → Nat) (z : α) : Int := (qs.map fun r => inS r.2.2 (f r.1) z).sum
/-- the balance of a house, where c is the cash and f how many payments each house has made -/
def held (qs : List (Row α)) (c : α → Int) (f : α → Nat) (r : Row α) : Int := c r.1 - outS r.2.2 (f r.1) + got qs f r.1
structure Good (qs : List (Row α)) : Prop where
  nd : (qs.map fun r => r.1).Nodup
  pos : ∀ r ∈ qs, ∀ x ∈ r.2.2, 1 ≤ x.2
def Within (qs : List (Row α)) (f : α → Nat) : Prop := ∀ r ∈ qs, f r.1 ≤ r.2.2.length
def Leq (qs : List (Row α)) (f g : α → Nat) : Prop := ∀ r ∈ qs, f r.1 ≤ g r.1
/-- nobody can pay -/
def Stable (qs : List (Row α)) (c : α → Int) (f : α → Nat) : Prop := ∀ r ∈ qs, ∀ x, r.2.2[f r.1]? = some x → held qs c f r < x.2
def Below (qs : List (Row α)) (c : α → Int) (f : α → Nat) : Prop := Within qs f ∧ ∀ g, Within qs g → Stable qs c g → Leq qs f g
def Least (qs : List (Row α)) (c : α → Int) (f : α → Nat) : Prop := Below qs c f ∧ Stable qs c f
/-- nobody is below nothing -/
def Feas (qs : List (Row α)) (c : α → Int) (f : α → Nat) : Prop := ∀ r ∈ qs, 0 ≤ held qs c f r
def Above (qs : List (Row α)) (c : α → Int) (f : α → Nat) : Prop := Within qs f ∧ ∀ g, Within qs g → Feas qs c g → Leq qs g f
def Great (qs : List (Row α)) (c : α → Int) (f : α → Nat) : Prop := Above qs c f ∧ Feas qs c f
def bump (f : α → Nat) (z : α) : α → Nat := fun y => if y = z then f y + 1 else f y
def drop (f : α → Nat) (z : α) : α → Nat := fun y => if y = z then f y - 1 else f y
theorem bump_same (f : α → Nat) (z : α) : bump f z z = f z + 1 := if_pos rfl
theorem bump_ne {f : α → Nat} {z y : α} (h : y ≠ z) : bump f z y = f y := if_neg h
theorem drop_same (f : α → Nat) (z : α) : drop f z z = f z - 1 := if_pos rfl
theorem drop_ne {f : α → Nat} {z y : α} (h : y ≠ z) : drop f z y = f y := if_neg h
/-! ### sums -/
theorem sum_append (l m : List Int) : (l ++ m).sum = l.sum + m.sum := by
  induction l with
  | nil => simp
  | cons x l ih =>
    rw [List.cons_append, List.sum_cons, List.sum_cons, ih]
    omega
theorem take_succ_of {β : Type} {l : List β} {k : Nat} {x : β} (h : l[k]? = some x) : l.take (k + 1) = l.take k ++ [x] := by
  rw [List.take_succ, h]
  rfl
theorem outS_succ {p : List (α × Int)} {k : Nat} {x : α × Int} (h : p[k]? = some x) : outS p (k + 1) = outS p k + x.2 := by
  unfold outS
  rw [take_succ_of h, List.map_append, sum_append]
  simp
theorem inS_succ {p : List (α × Int)} {k : Nat} {x : α × Int} (z : α) (h : p[k]? = some x) : inS p (k + 1) z = inS p k z + if x.1 = z then x.2 else 0 := by
  unfold inS
  rw [take_succ_of h, List.map_append, sum_append]
  simp
theorem sum_nonneg : ∀ {l : List Int}, (∀ x ∈ l, 0 ≤ x) → 0 ≤ l.sum
  | [], _ => by simp
  | x :: l, h => by
    have h1 := h x List.mem_cons_self
    have h2 := sum_nonneg fun y hy => h y (List.mem_cons_of_mem _ hy)
    rw [List.sum_cons]
    omega
theorem inS_nonneg {p : List (α × Int)} (hp : ∀ x ∈ p, 1 ≤ x.2) (k : Nat) (z : α) : 0 ≤ inS p k z := by
  unfold inS
  refine sum_nonneg fun y hy => ?_
  obtain ⟨x, hx, rfl⟩ := List.mem_map.mp hy
  have := hp x (List.mem_of_mem_take hx)
  split <;> omega
theorem inS_mono {p : List (α × Int)} (hp : ∀ x ∈ p, 1 ≤ x.2) (z : α) {k m : Nat} (h : k ≤ m) : inS p k z ≤ inS p m z := by
  have e : p.take m = p.take k ++ (p.drop k).take (m - k) := by
    rw [← List.take_append_drop k (p.take m), List.take_take, Nat.min_eq_left h, List.drop_take]
  unfold inS
  rw [e, List.map_append, sum_append]
  have : 0 ≤ (((p.drop k).take (m - k)).map fun x => if x.1 = z then x.2 else 0).sum := by
    refine sum_nonneg fun y hy => ?_
    obtain ⟨x, hx, rfl⟩ := List.mem_map.mp hy
    have := hp x (List.mem_of_mem_drop (List.mem_of_mem_take hx))
    split <;> omega
  omega
theorem sum_mono {β : Type} : ∀ {l : List β} {g h : β → Int}, (∀ x ∈ l, g x ≤ h x) → (l.map g).sum ≤ (l.map h).sum
  | [], _, _, _ => by simp
  | x :: l, g, h, k => by
    have h1 := k x List.mem_cons_self
    have h2 := sum_mono (l := l) fun y hy => k y (List.mem_cons_of_mem _ hy)
    rw [List.map_cons, List.map_cons, List.sum_cons, List.sum_cons]
    omega
theorem got_mono {qs : List (Row α)} (G : Good qs) {f g : α → Nat} (h : Leq qs f g) (z : α) : got qs f z ≤ got qs g z := sum_mono fun r hr => inS_mono (G.pos r hr) z (h r hr)
theorem got_nonneg {qs : List (Row α)} (G : Good qs) (f : α → Nat) (z : α) : 0 ≤ got qs f z := by
  refine sum_nonneg fun y hy => ?_
  obtain ⟨r, hr, rfl⟩ := List.mem_map.mp hy
  exact inS_nonneg (G.pos r hr) _ z
theorem got_congr {qs : List (Row α)} {f g : α → Nat} (h : ∀ r ∈ qs, f r.1 = g r.1) (z : α) : got qs f z = got qs g z := by
  unfold got
  congr 1
  exact List.map_congr_left fun r hr => by rw [h r hr]
theorem row_eq {qs : List (Row α)} (nd : (qs.map fun r => r.1).Nodup) {r q : Row α} (hr : r ∈ qs) (hq : q ∈ qs) (e : r.1 = q.1) : r = q := by
  induction qs with
  | nil => cases hr
  | cons x l ih =>
    obtain ⟨h1, h2⟩ := List.nodup_cons.mp nd
    rcases List.mem_cons.mp hr with a | a
    · rcases List.mem_cons.mp hq with b | b
      · rw [a, b]
      · exact absurd (List.mem_map.mpr ⟨q, b, by rw [← e, a]⟩) h1
    · rcases List.mem_cons.mp hq with b | b
      · exact absurd (List.mem_map.mpr ⟨r, a, by rw [e, b]⟩) h1
      · exact ih h2 a b
theorem got_bump {r : Row α} {x : α × Int} (z : α) : ∀ {qs : List (Row α)} {f : α → Nat}, (qs.map fun r => r.1).Nodup → r ∈ qs → r.2.2[f r.1]? = some x → got qs (bump f r.1) z = got qs f z + if x.1 = z then x.2 else 0
  | [], _, _, h, _ => by cases h
  | q :: l, f, nd, h, hx => by
    obtain ⟨h1, h2⟩ := List.nodup_cons.mp nd
    have e : ∀ (g : α → Nat), got (q :: l) g z = inS q.2.2 (g q.1) z + got l g z := fun g => by
      unfold got
      rw [List.map_cons, List.sum_cons]
    rw [e, e]
    by_cases hq : q = r
    · subst hq
      have same : got l (bump f q.1) z = got l f z := got_congr (fun y hy => bump_ne fun z2 => h1 (List.mem_map.mpr ⟨y, hy, z2⟩)) z
      rw [same, bump_same, inS_succ z hx]
      omega
    · have hr : r ∈ l := by
        rcases List.mem_cons.mp h with a | a
        · exact absurd a.symm hq
        · exact a
      have nq : q.1 ≠ r.1 := fun z2 => h1 (List.mem_map.mpr ⟨r, hr, z2.symm⟩)
      rw [got_bump z h2 hr hx, bump_ne nq]
      omega
theorem held_bump {qs : List (Row α)} (nd : (qs.map fun r => r.1).Nodup) {c : α → Int} {f : α → Nat} {r q : Row α} {x : α × Int} (hr : r ∈ qs) (hq : q ∈ qs) (hx : r.2.2[f r.1]? = some x) :
    held qs c (bump f r.1) q = held qs c f q - (if q.1 = r.1 then x.2 else 0) + if x.1 = q.1 then x.2 else 0 := by
  unfold held
  rw [got_bump q.1 nd hr hx]
  by_cases e : q.1 = r.1
  · have := row_eq nd hq hr e
    subst this
    rw [bump_same, outS_succ hx, if_pos rfl]
    omega
  · rw [bump_ne e, if_neg e]
    omega
/-! ### the least state in which nobody can pay -/
theorem below_zero (qs : List (Row α)) (c : α → Int) : Below qs c (fun _ => 0) := ⟨fun _ _ => Nat.zero_le _, fun _ _ _ _ _ => Nat.zero_le _⟩
theorem held_le {qs : List (Row α)} (G : Good qs) {c d : α → Int} {f g : α → Nat} {r : Row α} (h : Leq qs f g) (e : f r.1 = g r.1) (hc : c r.1 ≤ d r.1) : held qs c f r ≤ held qs d g r := by
  have := got_mono G h r.1
  unfold held
  rw [e]
  omega
theorem below_step {qs : List (Row α)} (G : Good qs) {c : α → Int} {f : α → Nat} (h : Below qs c f) {r : Row α} {x : α × Int} (hr : r ∈ qs) (hx : r.2.2[f r.1]? = some x) (pay : x.2 ≤ held qs c f r) : Below qs c (bump f r.1) := by
  obtain ⟨w, b⟩ := h
  have hlt : f r.1 < r.2.2.length := (List.getElem?_eq_some_iff.mp hx).1
  refine ⟨fun q hq => ?_, fun g wg sg q hq => ?_⟩
  · by_cases e : q.1 = r.1
    · have := row_eq G.nd hq hr e
      subst this
      rw [bump_same]
      exact hlt
    · rw [bump_ne e]
      exact w q hq
  · have hle := b g wg sg
    by_cases e : q.1 = r.1
    · have := row_eq G.nd hq hr e
      subst this
      rw [bump_same]
      rcases Nat.lt_or_ge (f q.1) (g q.1) with h1 | h1
      · exact h1
      · have e2 : f q.1 = g q.1 := Nat.le_antisymm (hle q hq) h1
        have h2 := held_le G (c := c) (d := c) hle e2 (Int.le_refl _)
        have h3 := sg q hq x (by rw [← e2]; exact hx)
        omega
    · rw [bump_ne e]
      exact hle q hq
theorem least_eq {qs : List (Row α)} {c : α → Int} {f g : α → Nat} (hf : Least qs c f) (hg : Least qs c g) : ∀ r ∈ qs, f r.1 = g r.1 := fun r hr =>
  Nat.le_antisymm (hf.1.2 g hg.1.1 hg.2 r hr) (hg.1.2 f hf.1.1 hf.2 r hr)
theorem stable_less {qs : List (Row α)} {c d : α → Int} {f : α → Nat} (h : ∀ r ∈ qs, c r.1 ≤ d r.1) (s : Stable qs d f) : Stable qs c f := fun r hr x hx => by
  have h1 := s r hr x hx
  have h2 := h r hr
  unfold held at h1 ⊢
  omega
theorem below_more {qs : List (Row α)} {c d : α → Int} {f : α → Nat} (h : ∀ r ∈ qs, c r.1 ≤ d r.1) (b : Below qs c f) : Below qs d f := ⟨b.1, fun g wg sg => b.2 g wg (stable_less h sg)⟩
theorem least_mono {qs : List (Row α)} {c d : α → Int} {f g : α → Nat} (h : ∀ r ∈ qs, c r.1 ≤ d r.1) (hf : Least qs c f) (hg : Least qs d g) : Leq qs f g := hf.1.2 g hg.1.1 (stable_less h hg.2)
/-! ### the greatest state in which nobody is below nothing -/
theorem above_all (qs : List (Row α)) (c : α → Int) {f : α → Nat} (h : ∀ r ∈ qs, f r.1 = r.2.2.length) : Above qs c f := ⟨fun r hr => Nat.le_of_eq (h r hr), fun g wg _ r hr => by rw [h r hr]; exact wg r hr⟩
theorem above_pos {qs : List (Row α)} (G : Good qs) {c : α → Int} {f : α → Nat} {r : Row α} (c0 : 0 ≤ c r.1) (lack : held qs c f r < 0) : f r.1 ≠ 0 := fun e => by
  have h1 := got_nonneg G f r.1
  unfold held at lack
  rw [e] at lack
  have : outS r.2.2 0 = 0 := by
    unfold outS
    rfl
  omega
theorem above_step {qs : List (Row α)} (G : Good qs) {c : α → Int} {f : α → Nat} (h : Above qs c f) {r : Row α} (hr : r ∈ qs) (lack : held qs c f r < 0) : Above qs c (drop f r.1) := by
  obtain ⟨w, b⟩ := h
  refine ⟨fun q hq => ?_, fun g wg sg q hq => ?_⟩
  · have := w q hq
    unfold drop
    split <;> omega
  · have hle := b g wg sg
    by_cases e : q.1 = r.1
    · have := row_eq G.nd hq hr e
      subst this
      rw [drop_same]
      rcases Nat.lt_or_ge (g q.1) (f q.1) with h1 | h1
      · omega
      · have e2 : g q.1 = f q.1 := Nat.le_antisymm (hle q hq) h1
        have h2 := held_le G (c := c) (d := c) hle e2 (Int.le_refl _)
        have h3 := sg q hq
        omega
    · rw [drop_ne e]
      exact hle q hq
theorem great_eq {qs : List (Row α)} {c : α → Int} {f g : α → Nat} (hf : Great qs c f) (hg : Great qs c g) : ∀ r ∈ qs, f r.1 = g r.1 := fun r hr =>
  Nat.le_antisymm (hg.1.2 f hf.1.1 hf.2 r hr) (hf.1.2 g hg.1.1 hg.2 r hr)
/-- the greatest is one in which nobody can pay, so the least lies below it -/
theorem great_stable {qs : List (Row α)} (G : Good qs) {c : α → Int} {f : α → Nat} (h : Great qs c f) : Stable qs c f := fun r hr x hx => by
  rcases Int.lt_or_le (held qs c f r) x.2 with h1 | h1
  · exact h1
  · exfalso
    have hlt : f r.1 < r.2.2.length := (List.getElem?_eq_some_iff.mp hx).1
    have w : Within qs (bump f r.1) := fun q hq => by
      by_cases e : q.1 = r.1
      · have := row_eq G.nd hq hr e
        subst this
        rw [bump_same]
        exact hlt
      · rw [bump_ne e]
        exact h.1.1 q hq
    have x1 := G.pos r hr x (List.mem_of_getElem? hx)
    have fe : Feas qs c (bump f r.1) := fun q hq => by
      rw [held_bump G.nd hr hq hx]
      have h2 := h.2 q hq
      by_cases e : q.1 = r.1
      · have := row_eq G.nd hq hr e
        subst this
        rw [if_pos rfl]
        split <;> omega
      · rw [if_neg e]
        split <;> omega
    have := h.1.2 _ w fe r hr
    rw [bump_same] at this
    omega
/-! ### the least cash of one house with which a goal is reached -/
def setC (c : α → Int) (h : α) (v : Int) : α → Int := fun z => if z = h then v else c z
theorem setC_same (c : α → Int) (h : α) (v : Int) : setC c h v h = v := if_pos rfl
theorem setC_ne {c : α → Int} {h z : α} {v : Int} (n : z ≠ h) : setC c h v z = c z := if_neg n
def Reach (qs : List (Row α)) (c : α → Int) (goal : α → Nat) : Prop := ∀ g, Within qs g → Stable qs c g → Leq qs goal g
theorem reach_iff {qs : List (Row α)} {c : α → Int} {goal f : α → Nat} (h : Least qs c f) : Reach qs c goal ↔ Leq qs goal f :=
  ⟨fun k => k f h.1.1 h.2, fun k g wg sg r hr => Nat.le_trans (k r hr) (h.1.2 g wg sg r hr)⟩
def Need (qs : List (Row α)) (c : α → Int) (h : α) (goal : α → Nat) : Option Int → Prop
  | some v => 0 ≤ v ∧ Reach qs (setC c h v) goal ∧ ∀ u, 0 ≤ u → Reach qs (setC c h u) goal → v ≤ u
  | none => ∀ u, 0 ≤ u → ¬ Reach qs (setC c h u) goal
theorem need_eq {qs qt : List (Row α)} {c d : α → Int} {h k : α} {goal aim : α → Nat} (e : ∀ u, 0 ≤ u → (Reach qs (setC c h u) goal ↔ Reach qt (setC d k u) aim)) {v w : Option Int} (hv : Need qs c h goal v) (hw : Need qt d k aim w) : v = w := by
  cases v with
  | none =>
    cases w with
    | none => rfl
    | some y => exact absurd ((e y hw.1).2 hw.2.1) (hv y hw.1)
  | some x =>
    cases w with
    | none => exact absurd ((e x hv.1).1 hv.2.1) (hw x hv.1)
    | some y =>
      have h1 := hv.2.2 y hw.1 ((e y hw.1).2 hw.2.1)
      have h2 := hw.2.2 x hv.1 ((e x hv.1).1 hv.2.1)
      rw [Int.le_antisymm h1 h2]
theorem reach_mono {qs : List (Row α)} {c d : α → Int} {goal : α → Nat} (h : ∀ r ∈ qs, c r.1 ≤ d r.1) (k : Reach qs c goal) : Reach qs d goal := fun g wg sg => k g wg (stable_less h sg)
theorem setC_le {c : α → Int} {h : α} {u v : Int} (l : u ≤ v) (z : α) : setC c h u z ≤ setC c h v z := by
  unfold setC
  split <;> omega
/-- what holds while cash is lent: v so far, f paid so far -/
structure Lends (qs : List (Row α)) (c : α → Int) (h : α) (goal : α → Nat) (v : Int) (f : α → Nat) : Prop where
  v0 : 0 ≤ v
  below : Below qs (setC c h v) f
  least : ∀ u, 0 ≤ u → Reach qs (setC c h u) goal → v ≤ u
theorem lends_begin (qs : List (Row α)) (c : α → Int) (h : α) (goal : α → Nat) : Lends qs c h goal 0 (fun _ => 0) := ⟨Int.le_refl _, below_zero _ _, fun _ h _ => h⟩
theorem lends_pay {qs : List (Row α)} (G : Good qs) {c : α → Int} {h : α} {goal f : α → Nat} {v : Int} (L : Lends qs c h goal v f) {r : Row α} {x : α × Int} (hr : r ∈ qs) (hx : r.2.2[f r.1]? = some x) (pay : x.2 ≤ held qs (setC c h v) f r) :
    Lends qs c h goal v (bump f r.1) := ⟨L.v0, below_step G L.below hr hx pay, L.least⟩
theorem lends_none {qs : List (Row α)} {c : α → Int} {h : α} {goal f : α → Nat} {v : Int} (L : Lends qs c h goal v f) (st : Stable qs (setC c h v) f) (no : ¬ Leq qs goal f) {r : Row α} (nd : (qs.map fun r => r.1).Nodup) (hr : r ∈ qs) (er : r.1 = h) (full : f h = r.2.2.length) : Need qs c h goal none := by
  intro u u0 k
  have hv := L.least u u0 k
  refine no (k f L.below.1 fun q hq x hx => ?_)
  by_cases e : q.1 = h
  · have := row_eq nd hq hr (by rw [e, er])
    subst this
    rw [er, full] at hx
    rw [List.getElem?_eq_none (Nat.le_refl _)] at hx
    cases hx
  · have h1 := st q hq x hx
    unfold held at h1 ⊢
    rw [setC_ne e] at h1 ⊢
    exact h1
theorem lends_more {qs : List (Row α)} (G : Good qs) {c : α → Int} {h : α} {goal f : α → Nat} {v : Int} (L : Lends qs c h goal v f) (st : Stable qs (setC c h v) f) (no : ¬ Leq qs goal f) {r : Row α} {x : α × Int} (hr : r ∈ qs) (er : r.1 = h) (hx : r.2.2[f r.1]? = some x) :
    0 < x.2 - held qs (setC c h v) f r ∧ Lends qs c h goal (v + (x.2 - held qs (setC c h v) f r)) (bump f r.1) := by
  have hlt := st r hr x hx
  have eh : ∀ w, held qs (setC c h w) f r = held qs (setC c h v) f r + (w - v) := fun w => by
    unfold held
    rw [er, setC_same, setC_same]
    omega
  have pos : 0 < x.2 - held qs (setC c h v) f r := by omega
  generalize hl : x.2 - held qs (setC c h v) f r = loan at pos
  have le : ∀ r ∈ qs, setC c h v r.1 ≤ setC c h (v + loan) r.1 := fun q _ => setC_le (by omega) q.1
  refine ⟨pos, by have := L.v0; omega, below_step G (below_more le L.below) hr hx ?_, fun u u0 k => ?_⟩
  · rw [eh]
    omega
  · have hv := L.least u u0 k
    rcases Int.lt_or_le u (v + loan) with h1 | h1
    · exfalso
      refine no (k f L.below.1 fun q hq y hy => ?_)
      by_cases e : q.1 = h
      · have := row_eq G.nd hq hr (by rw [e, er])
        subst this
        rw [hx] at hy
        cases hy
        rw [eh]
        omega
      · have h2 := st q hq y hy
        unfold held at h2 ⊢
        rw [setC_ne e] at h2 ⊢
        exact h2
    · exact h1
theorem lends_done {qs : List (Row α)} {c : α → Int} {h : α} {goal f : α → Nat} {v : Int} (L : Lends qs c h goal v f) (yes : Leq qs goal f) : Need qs c h goal (some v) :=
  ⟨L.v0, fun g wg sg r hr => Nat.le_trans (yes r hr) (L.below.2 g wg sg r hr), L.least⟩
/-! ### two systems, the one's house paying on to a house of the other -/
def linkRow (house goal : α) (many : Nat) (r : Row α) : Row α := if r.1 = house then (r.1, r.2.1, List.replicate many (goal, 1)) else r
structure Linked (one other B : List (Row α)) (house goal : α) (many : Nat) (r0 : Row α) : Prop where
  G1 : Good one
  G2 : Good other
  dis : ∀ r ∈ one, ∀ q ∈ other, r.1 ≠ q.1
  in1 : ∀ r ∈ one, ∀ x ∈ r.2.2, ∃ q ∈ one, q.1 = x.1
  in2 : ∀ r ∈ other, ∀ x ∈ r.2.2, ∃ q ∈ other, q.1 = x.1
  hr : r0 ∈ one
  hn : r0.1 = house
  hp : r0.2.2 = []
  gl : ∃ q ∈ other, q.1 = goal
  perm : B.Perm (one.map (linkRow house goal many) ++ other)
theorem perm_sum {l m : List Int} (h : l.Perm m) : l.sum = m.sum := by
  induction h with
  | nil => rfl
  | cons x _ ih => rw [List.sum_cons, List.sum_cons, ih]
  | swap x y l =>
    rw [List.sum_cons, List.sum_cons, List.sum_cons, List.sum_cons]
    omega
  | trans _ _ ih1 ih2 => rw [ih1, ih2]
theorem got_perm {qs qt : List (Row α)} (h : qs.Perm qt) (f : α → Nat) (z : α) : got qs f z = got qt f z := perm_sum (h.map _)
theorem got_append (qs qt : List (Row α)) (f : α → Nat) (z : α) : got (qs ++ qt) f z = got qs f z + got qt f z := by
  unfold got
  rw [List.map_append, sum_append]
theorem sum_zero : ∀ {l : List Int}, (∀ x ∈ l, x = 0) → l.sum = 0
  | [], _ => rfl
  | x :: l, h => by
    rw [List.sum_cons, h x List.mem_cons_self, sum_zero fun y hy => h y (List.mem_cons_of_mem _ hy)]
    rfl
theorem got_none {qs : List (Row α)} {z : α} (h : ∀ r ∈ qs, ∀ x ∈ r.2.2, x.1 ≠ z) (f : α → Nat) : got qs f z = 0 := by
  refine sum_zero fun y hy => ?_
  obtain ⟨r, hr, rfl⟩ := List.mem_map.mp hy
  refine sum_zero fun u hu => ?_
  obtain ⟨x, hx, rfl⟩ := List.mem_map.mp hu
  exact if_neg (h r hr x (List.mem_of_mem_take hx))
theorem out_units (goal : α) : ∀ (many k : Nat), outS (List.replicate many (goal, 1)) k = ((min k many : Nat) : Int) := fun many k => by
  unfold outS
  rw [List.take_replicate, List.map_replicate]
  induction (min k many) with
  | zero => rfl
  | succ n ih =>
    rw [List.replicate_succ, List.sum_cons, ih]
    omega
theorem in_units (goal z : α) (many k : Nat) : inS (List.replicate many (goal, 1)) k z = if goal = z then ((min k many : Nat) : Int) else 0 := by
  unfold inS
  rw [List.take_replicate, List.map_replicate]
  split
  · induction (min k many) with
    | zero => rfl
    | succ n ih =>
      rw [List.replicate_succ, List.sum_cons, ih]
      omega
  · refine sum_zero fun x hx => ?_
    exact (List.mem_replicate.mp hx).2
theorem got_same {qs : List (Row α)} {f g : α → Nat} (h : ∀ r ∈ qs, r.2.2 = [] ∨ f r.1 = g r.1) (z : α) : got qs f z = got qs g z := by
  unfold got
  congr 1
  refine List.map_congr_left fun r hr => ?_
  rcases h r hr with e | e
  · rw [e]
    unfold inS
    simp
  · rw [e]
theorem link_ne {house goal : α} {many : Nat} {r : Row α} (h : r.1 ≠ house) : linkRow house goal many r = r := if_neg h
theorem link_name (house goal : α) (many : Nat) (r : Row α) : (linkRow house goal many r).1 = r.1 := by
  unfold linkRow
  split <;> rfl
theorem got_link {house goal : α} {many : Nat} (f : α → Nat) (z : α) : ∀ {qs : List (Row α)}, (qs.map fun r => r.1).Nodup → (∀ r ∈ qs, r.1 = house → r.2.2 = []) →
    got (qs.map (linkRow house goal many)) f z = got qs f z + if house ∈ qs.map (fun r => r.1) then (if goal = z then ((min (f house) many : Nat) : Int) else 0) else 0
  | [], _, _ => by
    unfold got
    simp
  | r :: l, nd, he => by
    obtain ⟨h1, h2⟩ := List.nodup_cons.mp nd
    have ih := got_link f z (goal := goal) (many := many) h2 fun q hq => he q (List.mem_cons_of_mem _ hq)
    have e : ∀ (q : Row α) (m : List (Row α)), got (q :: m) f z = inS q.2.2 (f q.1) z + got m f z := fun q m => by
      unfold got
      rw [List.map_cons, List.sum_cons]
    rw [List.map_cons, e, e, ih]
    by_cases hh : r.1 = house
    · have no : house ∉ l.map fun r => r.1 := by
        rw [← hh]
        exact h1
      rw [if_neg no, if_pos (show house ∈ (r :: l).map (fun r => r.1) by rw [List.map_cons, hh]; exact List.mem_cons_self), he r List.mem_cons_self hh]
      have el : linkRow house goal many r = (r.1, r.2.1, List.replicate many (goal, 1)) := if_pos hh
      rw [el]
      dsimp only
      rw [in_units, hh]
      have : inS ([] : List (α × Int)) (f house) z = 0 := by
        unfold inS
        simp
      rw [this]
      omega
    · rw [link_ne hh]
      have iff : (house ∈ (r :: l).map fun r => r.1) ↔ house ∈ l.map fun r => r.1 := by
        rw [List.map_cons, List.mem_cons]
        exact ⟨fun k => k.elim (fun k => absurd k.symm hh) id, Or.inr⟩
      by_cases k : house ∈ l.map fun r => r.1
      · rw [if_pos k, if_pos (iff.2 k)]
        omega
      · rw [if_neg k, if_neg (fun k2 => k (iff.1 k2))]
        omega
def addC (c : α → Int) (g : α) (v : Int) : α → Int := fun z => c z + if z = g then v else 0
section
variable {one other B : List (Row α)} {house goal : α} {many : Nat} {r0 : Row α} {c : α → Int} {f : α → Nat}
theorem Linked.empty (L : Linked one other B house goal many r0) : ∀ r ∈ one, r.1 = house → r.2.2 = [] := fun r hr e => by
  have := row_eq L.G1.nd hr L.hr (by rw [e, L.hn])
  rw [this]
  exact L.hp
theorem Linked.mem (L : Linked one other B house goal many r0) {R : Row α} : R ∈ B ↔ (∃ r ∈ one, R = linkRow house goal many r) ∨ R ∈ other := by
  rw [L.perm.mem_iff, List.mem_append, List.mem_map]
  constructor
  · rintro (⟨r, h, e⟩ | h)
    · exact Or.inl ⟨r, h, e.symm⟩
    · exact Or.inr h
  · rintro (⟨r, h, e⟩ | h)
    · exact Or.inl ⟨r, h, e.symm⟩
    · exact Or.inr h
theorem Linked.gotB (L : Linked one other B house goal many r0) (z : α) : got B f z = got one f z + (if goal = z then ((min (f house) many : Nat) : Int) else 0) + got other f z := by
  rw [got_perm L.perm, got_append, got_link f z L.G1.nd L.empty, if_pos (List.mem_map.mpr ⟨r0, L.hr, L.hn⟩)]
theorem Linked.goal_ne (L : Linked one other B house goal many r0) {r : Row α} (hr : r ∈ one) : goal ≠ r.1 := fun e => by
  obtain ⟨q, hq, eq⟩ := L.gl
  exact L.dis r hr q hq (by rw [eq, e])
theorem Linked.one_other (L : Linked one other B house goal many r0) {q : Row α} (hq : q ∈ other) : got one f q.1 = 0 := got_none (fun r hr x hx e => by
  obtain ⟨r2, h2, e2⟩ := L.in1 r hr x hx
  exact L.dis r2 h2 q hq (by rw [e2, e])) f
theorem Linked.other_one (L : Linked one other B house goal many r0) {r : Row α} (hr : r ∈ one) : got other f r.1 = 0 := got_none (fun q hq x hx e => by
  obtain ⟨q2, h2, e2⟩ := L.in2 q hq x hx
  exact L.dis r hr q2 h2 (by rw [e2, e])) f
theorem Linked.held1 (L : Linked one other B house goal many r0) {r : Row α} (hr : r ∈ one) (hn : r.1 ≠ house) : held B c f (linkRow house goal many r) = held one c f r := by
  rw [link_ne hn]
  unfold held
  rw [L.gotB, L.other_one hr, if_neg (L.goal_ne hr)]
  omega
theorem Linked.heldH (L : Linked one other B house goal many r0) : held B c f (linkRow house goal many r0) = held one c f r0 - ((min (f house) many : Nat) : Int) := by
  have el : linkRow house goal many r0 = (r0.1, r0.2.1, List.replicate many (goal, 1)) := if_pos L.hn
  rw [el]
  unfold held
  dsimp only
  rw [L.gotB, L.other_one L.hr, if_neg (L.goal_ne L.hr), out_units, L.hp, L.hn]
  have : outS ([] : List (α × Int)) (f house) = 0 := by
    unfold outS
    simp
  rw [this]
  omega
theorem Linked.held2 (L : Linked one other B house goal many r0) {q : Row α} (hq : q ∈ other) : held B c f q = held other (addC c goal ((min (f house) many : Nat) : Int)) f q := by
  unfold held addC
  rw [L.gotB, L.one_other hq]
  by_cases e : q.1 = goal
  · rw [if_pos e.symm, if_pos e]
    omega
  · rw [if_neg (fun k => e k.symm), if_neg e]
    omega
theorem Linked.good (L : Linked one other B house goal many r0) : Good B := by
  refine ⟨?_, fun R hR x hx => ?_⟩
  · have e : ((one.map (linkRow house goal many) ++ other).map fun r => r.1) = (one.map fun r => r.1) ++ other.map fun r => r.1 := by
      rw [List.map_append, List.map_map]
      congr 1
      exact List.map_congr_left fun r _ => link_name house goal many r
    rw [(L.perm.map _).nodup_iff, e]
    refine List.nodup_append.mpr ⟨L.G1.nd, L.G2.nd, fun a ha b hb => ?_⟩
    obtain ⟨r, hr, rfl⟩ := List.mem_map.mp ha
    obtain ⟨q, hq, rfl⟩ := List.mem_map.mp hb
    exact L.dis r hr q hq
  · rcases L.mem.1 hR with ⟨r, hr, rfl⟩ | h
    · by_cases e : r.1 = house
      · rw [show linkRow house goal many r = (r.1, r.2.1, List.replicate many (goal, 1)) from if_pos e] at hx
        rw [(List.mem_replicate.mp hx).2]
        exact Int.le_refl _
      · rw [link_ne e] at hx
        exact L.G1.pos r hr x hx
    · exact L.G2.pos R h x hx
/-- states of both, put together -/
def comb (other : List (Row α)) (house : α) (f1 : α → Nat) (k : Nat) (f2 : α → Nat) : α → Nat := fun z => if z ∈ other.map (fun r => r.1) then f2 z else if z = house then k else f1 z
theorem comb2 {f1 f2 : α → Nat} {k : Nat} {q : Row α} (hq : q ∈ other) : comb other house f1 k f2 q.1 = f2 q.1 := if_pos (List.mem_map.mpr ⟨q, hq, rfl⟩)
theorem Linked.not2 (L : Linked one other B house goal many r0) {r : Row α} (hr : r ∈ one) : r.1 ∉ other.map fun r => r.1 := fun h => by
  obtain ⟨q, hq, e⟩ := List.mem_map.mp h
  exact L.dis r hr q hq e.symm
theorem Linked.combH (L : Linked one other B house goal many r0) {f1 f2 : α → Nat} {k : Nat} : comb other house f1 k f2 house = k := by
  have := L.not2 L.hr
  rw [L.hn] at this
  unfold comb
  rw [if_neg this, if_pos rfl]
theorem Linked.comb1 (L : Linked one other B house goal many r0) {f1 f2 : α → Nat} {k : Nat} {r : Row α} (hr : r ∈ one) (hn : r.1 ≠ house) : comb other house f1 k f2 r.1 = f1 r.1 := by
  unfold comb
  rw [if_neg (L.not2 hr), if_neg hn]
theorem Linked.got1 (L : Linked one other B house goal many r0) {f1 f2 : α → Nat} {k : Nat} (z : α) : got one (comb other house f1 k f2) z = got one f1 z := got_same (fun r hr => by
  by_cases e : r.1 = house
  · exact Or.inl (L.empty r hr e)
  · exact Or.inr (L.comb1 hr e)) z
theorem Linked.heldC1 (L : Linked one other B house goal many r0) {f1 f2 : α → Nat} {k : Nat} {r : Row α} (hr : r ∈ one) : held one c (comb other house f1 k f2) r = held one c f1 r := by
  unfold held
  rw [L.got1]
  by_cases e : r.1 = house
  · rw [L.empty r hr e]
    unfold outS
    simp
  · rw [L.comb1 hr e]
theorem heldC2 {f1 f2 : α → Nat} {k : Nat} {q : Row α} (hq : q ∈ other) (d : α → Int) : held other d (comb other house f1 k f2) q = held other d f2 q := by
  unfold held
  rw [got_congr (fun r hr => comb2 hr) q.1, comb2 hq]
theorem Linked.within (L : Linked one other B house goal many r0) {f1 f2 : α → Nat} {k : Nat} (hk : k ≤ many) (w1 : ∀ r ∈ one, r.1 ≠ house → f1 r.1 ≤ r.2.2.length) (w2 : Within other f2) : Within B (comb other house f1 k f2) := fun R hR => by
  rcases L.mem.1 hR with ⟨r, hr, rfl⟩ | h
  · by_cases e : r.1 = house
    · rw [show linkRow house goal many r = (r.1, r.2.1, List.replicate many (goal, 1)) from if_pos e]
      dsimp only
      rw [e, L.combH, List.length_replicate]
      exact hk
    · rw [link_ne e, L.comb1 hr e]
      exact w1 r hr e
  · rw [comb2 h]
    exact w2 R h
theorem Linked.memH (L : Linked one other B house goal many r0) : (r0.1, r0.2.1, List.replicate many (goal, 1)) ∈ B := L.mem.2 (Or.inl ⟨r0, L.hr, (if_pos L.hn).symm⟩)
theorem Linked.mem1 (L : Linked one other B house goal many r0) {r : Row α} (hr : r ∈ one) (hn : r.1 ≠ house) : r ∈ B := L.mem.2 (Or.inl ⟨r, hr, (link_ne hn).symm⟩)
theorem Linked.mem2 (L : Linked one other B house goal many r0) {q : Row α} (hq : q ∈ other) : q ∈ B := L.mem.2 (Or.inr hq)
/-- what a state of both says of its parts -/
theorem Linked.stable_parts (L : Linked one other B house goal many r0) {g : α → Nat} (w : Within B g) (st : Stable B c g) : g house ≤ many ∧ Within other g ∧ (∀ r ∈ one, g r.1 ≤ if r.1 = house then many else r.2.2.length) ∧ Stable one c g ∧ (g house = many ∨ held one c g r0 - (g house : Int) < 1) ∧ Stable other (addC c goal (g house : Int)) g := by
  have gH : g house ≤ many := by
    have := w _ L.memH
    dsimp only at this
    rw [List.length_replicate, L.hn] at this
    exact this
  have mn : min (g house) many = g house := Nat.min_eq_left gH
  refine ⟨gH, fun q hq => w q (L.mem2 hq), fun r hr => ?_, fun r hr x hx => ?_, ?_, fun q hq x hx => ?_⟩
  · split
    · rename_i e
      rw [e]
      exact gH
    · rename_i e
      exact w r (L.mem1 hr e)
  · by_cases e : r.1 = house
    · rw [L.empty r hr e] at hx
      cases hx
    · have h1 := st r (L.mem1 hr e) x hx
      rw [← L.held1 hr e, link_ne e]
      exact h1
  · rcases Nat.lt_or_ge (g house) many with h1 | h1
    · right
      have h2 := st _ L.memH (goal, 1) (by
        dsimp only
        rw [L.hn, List.getElem?_replicate, if_pos h1])
      have h3 := L.heldH (c := c) (f := g)
      rw [show linkRow house goal many r0 = (r0.1, r0.2.1, List.replicate many (goal, 1)) from if_pos L.hn, mn] at h3
      rw [h3] at h2
      exact h2
    · left
      omega
  · have h1 := st q (L.mem2 hq) x hx
    rw [L.held2 hq, mn] at h1
    exact h1
theorem Linked.stable_of (L : Linked one other B house goal many r0) {g : α → Nat} (gH : g house ≤ many) (s1 : Stable one c g) (sH : g house = many ∨ held one c g r0 - (g house : Int) < 1) (s2 : Stable other (addC c goal (g house : Int)) g) : Stable B c g := fun R hR x hx => by
  have mn : min (g house) many = g house := Nat.min_eq_left gH
  rcases L.mem.1 hR with ⟨r, hr, rfl⟩ | h
  · by_cases e : r.1 = house
    · have er := row_eq L.G1.nd hr L.hr (by rw [e, L.hn])
      subst er
      rw [L.heldH, mn]
      rw [show linkRow house goal many r = (r.1, r.2.1, List.replicate many (goal, 1)) from if_pos e] at hx
      dsimp only at hx
      rw [e] at hx
      have hlt := (List.getElem?_eq_some_iff.mp hx).1
      rw [List.length_replicate] at hlt
      rw [List.getElem?_replicate, if_pos hlt] at hx
      cases hx
      rcases sH with k | k
      · omega
      · exact k
    · rw [L.held1 hr e]
      rw [link_ne e] at hx
      exact s1 r hr x hx
  · rw [L.held2 h, mn]
    exact s2 R h x hx
theorem stable_comb1 (L : Linked one other B house goal many r0) {f1 f2 : α → Nat} {k : Nat} (s : Stable one c f1) : Stable one c (comb other house f1 k f2) := fun r hr x hx => by
  by_cases e : r.1 = house
  · rw [L.empty r hr e] at hx
    cases hx
  · rw [L.comb1 hr e] at hx
    rw [L.heldC1 hr]
    exact s r hr x hx
theorem stable_comb2 {f1 f2 : α → Nat} {k : Nat} {d : α → Int} (s : Stable other d f2) : Stable other d (comb other house f1 k f2) := fun q hq x hx => by
  rw [comb2 hq] at hx
  rw [heldC2 hq]
  exact s q hq x hx
/-- a function that agrees with g on the rows but the house's, whose payments are none -/
theorem Linked.least (L : Linked one other B house goal many r0) {f1 f2 : α → Nat} {come : Nat} (h1 : Least one c f1) (hc : (come : Int) = min (many : Int) (held one c f1 r0)) (h2 : Least other (addC c goal (come : Int)) f2) : Least B c (comb other house f1 come f2) := by
  have cm : come ≤ many := by omega
  refine ⟨⟨L.within cm (fun r hr _ => h1.1.1 r hr) h2.1.1, fun g wg sg R hR => ?_⟩, L.stable_of (by rw [L.combH]; exact cm) (stable_comb1 L h1.2) ?_ (by rw [L.combH]; exact stable_comb2 h2.2)⟩
  · obtain ⟨gH, w2, w1, s1, sH, s2⟩ := L.stable_parts wg sg
    -- the one's part
    have le1 : Leq one f1 (fun z => if z = house then 0 else g z) := h1.1.2 _ (fun r hr => by
      show (if r.1 = house then 0 else g r.1) ≤ r.2.2.length
      split
      · exact Nat.zero_le _
      · rename_i e
        have := w1 r hr
        rw [if_neg e] at this
        exact this) (fun r hr x hx => by
      by_cases e : r.1 = house
      · rw [L.empty r hr e] at hx
        cases hx
      · have hx : r.2.2[if r.1 = house then 0 else g r.1]? = some x := hx
        rw [if_neg e] at hx
        have eh : held one c (fun z => if z = house then 0 else g z) r = held one c g r := by
          unfold held
          have ee : (fun z => if z = house then 0 else g z) r.1 = g r.1 := if_neg e
          rw [ee, got_same (g := g) fun q hq => by
            by_cases e2 : q.1 = house
            · exact Or.inl (L.empty q hq e2)
            · exact Or.inr (if_neg e2)]
        rw [eh]
        exact s1 r hr x hx)
    have hle : held one c f1 r0 ≤ held one c g r0 := by
      have hg : got one f1 r0.1 ≤ got one g r0.1 := by
        have := got_mono L.G1 le1 r0.1
        rw [got_same (f := fun z => if z = house then 0 else g z) (g := g) fun q hq => by
          by_cases e2 : q.1 = house
          · exact Or.inl (L.empty q hq e2)
          · exact Or.inr (if_neg e2)] at this
        exact this
      unfold held
      rw [L.hp]
      have : ∀ n, outS ([] : List (α × Int)) n = 0 := fun n => by
        unfold outS
        simp
      rw [this, this]
      omega
    have comeg : come ≤ g house := by omega
    have le2 : Leq other f2 g := h2.1.2 g w2 (stable_less (fun q _ => by unfold addC; split <;> omega) s2)
    rcases L.mem.1 hR with ⟨r, hr, rfl⟩ | h
    · rw [link_name]
      by_cases e : r.1 = house
      · rw [e, L.combH]
        exact comeg
      · rw [L.comb1 hr e]
        have := le1 r hr
        dsimp only at this
        rw [if_neg e] at this
        exact this
    · rw [comb2 h]
      exact le2 R h
  · rw [L.combH, L.heldC1 L.hr]
    omega
def cutH (house : α) (g : α → Nat) : α → Nat := fun z => if z = house then 0 else g z
theorem cut_ne {g : α → Nat} {z : α} (h : z ≠ house) : cutH house g z = g z := if_neg h
theorem cut_same {g : α → Nat} : cutH house g house = 0 := if_pos rfl
theorem out_nil (n : Nat) : outS ([] : List (α × Int)) n = 0 := by
  unfold outS
  simp
theorem Linked.held_cut (L : Linked one other B house goal many r0) {g : α → Nat} {r : Row α} (hr : r ∈ one) : held one c (cutH house g) r = held one c g r := by
  unfold held
  rw [got_same (g := g) fun q hq => by
    by_cases e : q.1 = house
    · exact Or.inl (L.empty q hq e)
    · exact Or.inr (cut_ne e)]
  by_cases e : r.1 = house
  · rw [L.empty r hr e, out_nil, out_nil]
  · rw [cut_ne e]
theorem Linked.within_cut (L : Linked one other B house goal many r0) {g : α → Nat} (w : ∀ r ∈ one, r.1 ≠ house → g r.1 ≤ r.2.2.length) : Within one (cutH house g) := fun r hr => by
  by_cases e : r.1 = house
  · rw [e, cut_same]
    exact Nat.zero_le _
  · rw [cut_ne e]
    exact w r hr e
theorem Linked.great (L : Linked one other B house goal many r0) {f1 f2 : α → Nat} {come : Nat} (h1 : Great one c f1) (hc : (come : Int) = min (many : Int) (held one c f1 r0)) (h2 : Great other (addC c goal (come : Int)) f2) : Great B c (comb other house f1 come f2) := by
  have cm : come ≤ many := by omega
  have mn : min come many = come := Nat.min_eq_left cm
  refine ⟨⟨L.within cm (fun r hr _ => h1.1.1 r hr) h2.1.1, fun g wg fg R hR => ?_⟩, fun R hR => ?_⟩
  · have gH : g house ≤ many := by
      have := wg _ L.memH
      dsimp only at this
      rw [List.length_replicate, L.hn] at this
      exact this
    have mg : min (g house) many = g house := Nat.min_eq_left gH
    have fH : 0 ≤ held one c g r0 - (g house : Int) := by
      have h3 := L.heldH (c := c) (f := g)
      rw [mg] at h3
      rw [← h3]
      exact fg _ (L.mem.2 (Or.inl ⟨r0, L.hr, rfl⟩))
    have f1' : Feas one c (cutH house g) := fun r hr => by
      rw [L.held_cut hr]
      by_cases e : r.1 = house
      · have er := row_eq L.G1.nd hr L.hr (by rw [e, L.hn])
        subst er
        omega
      · rw [← L.held1 (goal := goal) (many := many) (B := B) hr e]
        exact fg _ (L.mem.2 (Or.inl ⟨r, hr, rfl⟩))
    have le1 := h1.1.2 _ (L.within_cut fun r hr e => wg r (L.mem1 hr e)) f1'
    have hle : held one c g r0 ≤ held one c f1 r0 := by
      rw [← L.held_cut L.hr]
      have := got_mono L.G1 le1 r0.1
      unfold held
      rw [L.hp, out_nil, out_nil]
      omega
    have comeg : g house ≤ come := by omega
    have le2 : Leq other g f2 := h2.1.2 g (fun q hq => wg q (L.mem2 hq)) fun q hq => by
      have h3 := fg q (L.mem2 hq)
      rw [L.held2 hq, mg] at h3
      unfold held addC at h3 ⊢
      split at h3 <;> split <;> omega
    rcases L.mem.1 hR with ⟨r, hr, rfl⟩ | h
    · rw [link_name]
      by_cases e : r.1 = house
      · rw [e, L.combH]
        exact comeg
      · rw [L.comb1 hr e]
        have := le1 r hr
        rw [cut_ne e] at this
        exact this
    · rw [comb2 h]
      exact le2 R h
  · rcases L.mem.1 hR with ⟨r, hr, rfl⟩ | h
    · by_cases e : r.1 = house
      · have er := row_eq L.G1.nd hr L.hr (by rw [e, L.hn])
        subst er
        rw [L.heldH, L.combH, L.heldC1 hr, mn]
        omega
      · rw [L.held1 hr e, L.heldC1 hr]
        exact h1.2 r hr
    · rw [L.held2 h, L.combH, heldC2 h, mn]
      exact h2.2 R h
def EqOn (qs : List (Row α)) (f g : α → Nat) : Prop := ∀ r ∈ qs, f r.1 = g r.1
theorem Linked.eq_iff (L : Linked one other B house goal many r0) {f1 f2 g1 g2 : α → Nat} {k m : Nat} : EqOn B (comb other house f1 k f2) (comb other house g1 m g2) ↔ (∀ r ∈ one, r.1 ≠ house → f1 r.1 = g1 r.1) ∧ k = m ∧ EqOn other f2 g2 := by
  constructor
  · intro h
    refine ⟨fun r hr e => ?_, ?_, fun q hq => ?_⟩
    · have := h r (L.mem1 hr e)
      rw [L.comb1 hr e, L.comb1 hr e] at this
      exact this
    · have := h _ L.memH
      dsimp only at this
      rw [L.hn, L.combH, L.combH] at this
      exact this
    · have := h q (L.mem2 hq)
      rw [comb2 hq, comb2 hq] at this
      exact this
  · rintro ⟨h1, h2, h3⟩ R hR
    rcases L.mem.1 hR with ⟨r, hr, rfl⟩ | h
    · rw [link_name]
      by_cases e : r.1 = house
      · rw [e, L.combH, L.combH, h2]
      · rw [L.comb1 hr e, L.comb1 hr e]
        exact h1 r hr e
    · rw [comb2 h, comb2 h]
      exact h3 R h
/-- all of z's payments -/
def lenOf (qs : List (Row α)) (z : α) : Nat := ((qs.find? fun r => decide (r.1 = z)).map fun r => r.2.2.length).getD 0
theorem lenOf_at : ∀ {qs : List (Row α)} {r : Row α}, (qs.map fun r => r.1).Nodup → r ∈ qs → lenOf qs r.1 = r.2.2.length
  | q :: l, r, nd, h => by
    obtain ⟨h1, h2⟩ := List.nodup_cons.mp nd
    unfold lenOf
    by_cases e : q.1 = r.1
    · have := row_eq nd h List.mem_cons_self e.symm
      subst this
      rw [List.find?_cons_of_pos (by simp)]
      rfl
    · rw [List.find?_cons_of_neg (by simp [e])]
      rcases List.mem_cons.mp h with a | a
      · exact absurd (by rw [a]) e
      · exact lenOf_at h2 a
theorem all_stable {qs : List (Row α)} {d : α → Int} {f : α → Nat} (h : ∀ r ∈ qs, f r.1 = r.2.2.length) : Stable qs d f := fun r hr x hx => by
  rw [h r hr, List.getElem?_eq_none (Nat.le_refl _)] at hx
  cases hx
/-- a goal of the one alone -/
theorem Linked.reach1 (L : Linked one other B house goal many r0) {gl : α → Nat} (gh : gl house = 0) (go : ∀ q ∈ other, gl q.1 = 0) : Reach B c gl ↔ Reach one c gl := by
  constructor
  · intro h g wg sg r hr
    have full : ∀ q ∈ other, lenOf other q.1 = q.2.2.length := fun q hq => lenOf_at L.G2.nd hq
    have := h (comb other house g many (lenOf other)) (L.within (Nat.le_refl _) (fun r hr _ => wg r hr) fun q hq => Nat.le_of_eq (full q hq))
      (L.stable_of (by rw [L.combH]; exact Nat.le_refl _) (stable_comb1 L sg) (Or.inl L.combH) (stable_comb2 (all_stable full)))
    by_cases e : r.1 = house
    · rw [e, gh]
      exact Nat.zero_le _
    · have := this r (L.mem1 hr e)
      rw [L.comb1 hr e] at this
      exact this
  · intro h g wg sg R hR
    obtain ⟨gH, w2, w1, s1, _, _⟩ := L.stable_parts wg sg
    rcases L.mem.1 hR with ⟨r, hr, rfl⟩ | hq
    · rw [link_name]
      by_cases e : r.1 = house
      · rw [e, gh]
        exact Nat.zero_le _
      · have := h (cutH house g) (L.within_cut fun q hq e2 => wg q (L.mem1 hq e2)) (fun q hq x hx => by
          rw [L.held_cut hq]
          by_cases e2 : q.1 = house
          · rw [L.empty q hq e2] at hx
            cases hx
          · rw [cut_ne e2] at hx
            exact s1 q hq x hx) r hr
        rw [cut_ne e] at this
        exact this
    · rw [go R hq]
      exact Nat.zero_le _
/-- a goal of the other alone -/
theorem Linked.reach2 (L : Linked one other B house goal many r0) {gl f1 f2 : α → Nat} {come : Nat} (g1 : ∀ r ∈ one, gl r.1 = 0) (h : Least B c (comb other house f1 come f2)) : Reach B c gl ↔ Leq other gl f2 := by
  rw [reach_iff h]
  constructor
  · intro k q hq
    have := k q (L.mem2 hq)
    rw [comb2 hq] at this
    exact this
  · intro k R hR
    rcases L.mem.1 hR with ⟨r, hr, rfl⟩ | hq
    · rw [link_name, g1 r hr]
      exact Nat.zero_le _
    · rw [comb2 hq]
      exact k R hq
end
end KQ
namespace NM
/-- the letters but q -/
def L25 : List Nat := [97, 98, 99, 100, 101, 102, 103, 104, 105, 106, 107, 108, 109, 110, 111, 112, 114, 115, 116, 117, 118, 119, 120, 121, 122]
def textOf (body : List Nat) (cut c : Nat) : List Nat := body.take cut ++ [c] ++ body.drop cut
def nameOf (t : List Nat) (at' : Nat) : List Nat := if (t.drop at').take 1 = [117] then t ++ [113] else t.take at' ++ [113] ++ t.drop at'
theorem textOf_len (b : List Nat) (cut c : Nat) : (textOf b cut c).length = b.length + 1 := by
  unfold textOf
  simp only [List.length_append, List.length_take, List.length_drop, List.length_singleton]
  omega
theorem textOf_at (b : List Nat) (cut c : Nat) : (textOf b cut c)[min cut b.length]? = some c := by
  unfold textOf
  rw [List.append_assoc, List.getElem?_append_right (by rw [List.length_take]; exact Nat.le_refl _), List.length_take, Nat.sub_self]
  rfl
theorem textOf_inj {b b' : List Nat} {cut c c' : Nat} (h : textOf b cut c = textOf b' cut c') : c = c' := by
  have hl : b.length = b'.length := by
    have := congrArg List.length h
    rw [textOf_len, textOf_len] at this
    omega
  have h1 := textOf_at b cut c
  rw [h, hl, textOf_at] at h1
  exact (Option.some.inj h1).symm
theorem mem_textOf {b : List Nat} {cut c x : Nat} : x ∈ textOf b cut c ↔ x ∈ b ∨ x = c := by
  unfold textOf
  rw [List.mem_append, List.mem_append, List.mem_singleton]
  constructor
  · rintro ((h | h) | h)
    · exact Or.inl (List.mem_of_mem_take h)
    · exact Or.inr h
    · exact Or.inl (List.mem_of_mem_drop h)
  · rintro (h | h)
    · rw [← List.take_append_drop cut b, List.mem_append] at h
      rcases h with h | h
      · exact Or.inl (Or.inl h)
      · exact Or.inr h
    · exact Or.inl (Or.inr h)
theorem filt {t : List Nat} (h : 113 ∉ t) : t.filter (fun x => x != 113) = t := List.filter_eq_self.mpr fun x hx => by
  rw [bne_iff_ne]
  intro e
  exact h (e ▸ hx)
theorem nameOf_filt {t : List Nat} {at' : Nat} (h : 113 ∉ t) : (nameOf t at').filter (fun x => x != 113) = t := by
  unfold nameOf
  split
  · rw [List.filter_append, filt h]
    simp
  · rw [List.filter_append, List.filter_append, filt fun k => h (List.mem_of_mem_take k), filt fun k => h (List.mem_of_mem_drop k)]
    simp
theorem nameOf_len (t : List Nat) (at' : Nat) : (nameOf t at').length = t.length + 1 := by
  unfold nameOf
  split
  · simp
  · simp only [List.length_append, List.length_take, List.length_drop, List.length_singleton]
    omega
theorem mem_nameOf {t : List Nat} {at' x : Nat} : x ∈ nameOf t at' ↔ x ∈ t ∨ x = 113 := by
  unfold nameOf
  split
  · rw [List.mem_append, List.mem_singleton]
  · rw [List.mem_append, List.mem_append, List.mem_singleton]
    constructor
    · rintro ((h | h) | h)
      · exact Or.inl (List.mem_of_mem_take h)
      · exact Or.inr h
      · exact Or.inl (List.mem_of_mem_drop h)
    · rintro (h | h)
      · rw [← List.take_append_drop at' t, List.mem_append] at h
        rcases h with h | h
        · exact Or.inl (Or.inl h)
        · exact Or.inr h
      · exact Or.inl (Or.inr h)
def stepOk (s : Int) : Prop := s = 1 ∨ s = 2 ∨ s = 3 ∨ s = 4 ∨ s = 6 ∨ s = 7 ∨ s = 8 ∨ s = 9 ∨ s = 11
theorem own_inj {shift s : Int} (hs : stepOk s) {k m : Nat} (hk : k < 25) (hm : m < 25) (h : (shift + s * (k : Int)) % 25 = (shift + s * (m : Int)) % 25) : k = m := by
  rcases hs with rfl | rfl | rfl | rfl | rfl | rfl | rfl | rfl | rfl <;> omega
theorem L25_nodup : L25.Nodup := by decide
theorem L25_noq : 113 ∉ L25 := by decide
/-- a made name: its body of letters, where it is cut, its own letter, where q stands -/
structure Made (cut : Nat) (shift s : Int) (k : Nat) (n : List Nat) : Prop where
  ex : ∃ (b : List Nat) (c at' : Nat), b.length ≤ 5 ∧ (∀ x ∈ b, x ∈ L25) ∧ L25[((shift + s * (k : Int)) % 25).toNat]? = some c ∧ n = nameOf (textOf b cut c) at'
theorem Made.ne {cut : Nat} {shift s : Int} {k m : Nat} {n n' : List Nat} (hs : stepOk s) (hk : k < 25) (hm : m < 25) (h : Made cut shift s k n) (h' : Made cut shift s m n') (e : n = n') : k = m := by
  obtain ⟨b, c, a, h1, h2, h3, h4⟩ := h.ex
  obtain ⟨b', c', a', g1, g2, g3, g4⟩ := h'.ex
  have noq : 113 ∉ textOf b cut c := fun hx => by
    rcases mem_textOf.mp hx with z | z
    · exact L25_noq (h2 _ z)
    · rw [← z] at h3
      exact L25_noq (List.mem_of_getElem? h3)
  have noq' : 113 ∉ textOf b' cut c' := fun hx => by
    rcases mem_textOf.mp hx with z | z
    · exact L25_noq (g2 _ z)
    · rw [← z] at g3
      exact L25_noq (List.mem_of_getElem? g3)
  have ht : textOf b cut c = textOf b' cut c' := by
    rw [← nameOf_filt (at' := a) noq, ← h4, e, g4, nameOf_filt noq']
  have hc := textOf_inj ht
  subst hc
  have i1 : ((shift + s * (k : Int)) % 25).toNat < L25.length := (List.getElem?_eq_some_iff.mp h3).1
  have := (List.getElem?_inj i1 L25_nodup).mp (h3.trans g3.symm)
  refine own_inj (shift := shift) hs hk hm ?_
  have e1 := Int.emod_nonneg (shift + s * (k : Int)) (show (25 : Int) ≠ 0 by decide)
  have e2 := Int.emod_nonneg (shift + s * (m : Int)) (show (25 : Int) ≠ 0 by decide)
  omega
theorem Made.facts {cut : Nat} {shift s : Int} {k : Nat} {n : List Nat} (h : Made cut shift s k n) : 1 ≤ n.length ∧ n.length ≤ 7 ∧ 113 ∈ n ∧ ∀ x ∈ n, x ∈ L25 ∨ x = 113 := by
  obtain ⟨b, c, a, h1, h2, h3, h4⟩ := h.ex
  subst h4
  rw [nameOf_len, textOf_len]
  refine ⟨by omega, by omega, mem_nameOf.mpr (Or.inr rfl), fun x hx => ?_⟩
  rcases mem_nameOf.mp hx with z | z
  · rcases mem_textOf.mp z with y | y
    · exact Or.inl (h2 x y)
    · rw [y]
      exact Or.inl (List.mem_of_getElem? h3)
  · exact Or.inr z
end NM
namespace KQ
variable {α : Type} [DecidableEq α]
/-! ### the same payments, other cash -/
def mc (g : Row α → Int) (qs : List (Row α)) : List (Row α) := qs.map fun r => (r.1, g r, r.2.2)
section
variable {qs : List (Row α)} {g : Row α → Int} {c d : α → Int} {f h : α → Nat}
theorem mc_mem {q : Row α} (h : q ∈ mc g qs) : ∃ r ∈ qs, q = (r.1, g r, r.2.2) := by
  obtain ⟨r, hr, e⟩ := List.mem_map.mp h
  exact ⟨r, hr, e.symm⟩
theorem mc_in {r : Row α} (h : r ∈ qs) : (r.1, g r, r.2.2) ∈ mc g qs := List.mem_map.mpr ⟨r, h, rfl⟩
theorem mc_got (f : α → Nat) (y : α) : got (mc g qs) f y = got qs f y := by
  unfold got mc
  rw [List.map_map]
  rfl
theorem mc_held (c : α → Int) (f : α → Nat) (r : Row α) (u : Int) : held (mc g qs) c f (r.1, u, r.2.2) = held qs c f r := by
  unfold held
  rw [mc_got]
theorem mc_within : Within (mc g qs) f ↔ Within qs f :=
  ⟨fun h r hr => by
    have := h _ (mc_in (g := g) hr)
    exact this, fun h q hq => by
    obtain ⟨r, hr, rfl⟩ := mc_mem hq
    exact h r hr⟩
theorem mc_leq : Leq (mc g qs) f h ↔ Leq qs f h :=
  ⟨fun h r hr => by
    have := h _ (mc_in (g := g) hr)
    exact this, fun h q hq => by
    obtain ⟨r, hr, rfl⟩ := mc_mem hq
    exact h r hr⟩
theorem mc_stable : Stable (mc g qs) c f ↔ Stable qs c f :=
  ⟨fun h r hr x hx => by
    have := h _ (mc_in hr) x hx
    rw [mc_held] at this
    exact this, fun h q hq x hx => by
    obtain ⟨r, hr, rfl⟩ := mc_mem hq
    rw [mc_held]
    exact h r hr x hx⟩
theorem mc_feas : Feas (mc g qs) c f ↔ Feas qs c f :=
  ⟨fun h r hr => by
    have := h _ (mc_in hr)
    rw [mc_held] at this
    exact this, fun h q hq => by
    obtain ⟨r, hr, rfl⟩ := mc_mem hq
    rw [mc_held]
    exact h r hr⟩
theorem mc_least : Least (mc g qs) c f ↔ Least qs c f := by
  unfold Least Below
  rw [mc_stable, mc_within]
  constructor
  · rintro ⟨⟨a, b⟩, e⟩
    exact ⟨⟨a, fun k wk sk => mc_leq.mp (b k (mc_within.mpr wk) (mc_stable.mpr sk))⟩, e⟩
  · rintro ⟨⟨a, b⟩, e⟩
    exact ⟨⟨a, fun k wk sk => mc_leq.mpr (b k (mc_within.mp wk) (mc_stable.mp sk))⟩, e⟩
theorem mc_great : Great (mc g qs) c f ↔ Great qs c f := by
  unfold Great Above
  rw [mc_feas, mc_within]
  constructor
  · rintro ⟨⟨a, b⟩, e⟩
    exact ⟨⟨a, fun k wk sk => mc_leq.mp (b k (mc_within.mpr wk) (mc_feas.mpr sk))⟩, e⟩
  · rintro ⟨⟨a, b⟩, e⟩
    exact ⟨⟨a, fun k wk sk => mc_leq.mpr (b k (mc_within.mp wk) (mc_feas.mp sk))⟩, e⟩
theorem feas_more (hc : ∀ r ∈ qs, c r.1 ≤ d r.1) (s : Feas qs c f) : Feas qs d f := fun r hr => by
  have h1 := s r hr
  have h2 := hc r hr
  unfold held at h1 ⊢
  omega
theorem least_congr (hc : ∀ r ∈ qs, c r.1 = d r.1) (hl : Least qs c f) : Least qs d f :=
  ⟨below_more (fun r hr => Int.le_of_eq (hc r hr)) hl.1, stable_less (fun r hr => Int.le_of_eq (hc r hr).symm) hl.2⟩
theorem great_congr (hc : ∀ r ∈ qs, c r.1 = d r.1) (hl : Great qs c f) : Great qs d f :=
  ⟨⟨hl.1.1, fun k wk sk => hl.1.2 k wk (feas_more (fun r hr => Int.le_of_eq (hc r hr).symm) sk)⟩, feas_more (fun r hr => Int.le_of_eq (hc r hr)) hl.2⟩
end
/-! ### the least or the greatest -/
def Opt : Bool → List (Row α) → (α → Int) → (α → Nat) → Prop
  | true => Least
  | false => Great
section
variable {m : Bool} {qs : List (Row α)} {g : Row α → Int} {c d : α → Int} {f h : α → Nat}
theorem Opt.within (o : Opt m qs c f) : Within qs f := by
  cases m
  · exact o.1.1
  · exact o.1.1
theorem Opt.eq (o : Opt m qs c f) (p : Opt m qs c h) : EqOn qs f h := by
  cases m
  · exact great_eq o p
  · exact least_eq o p
theorem opt_mc : Opt m (mc g qs) c f ↔ Opt m qs c f := by
  cases m
  · exact mc_great
  · exact mc_least
theorem opt_congr (hc : ∀ r ∈ qs, c r.1 = d r.1) (o : Opt m qs c f) : Opt m qs d f := by
  cases m
  · exact great_congr hc o
  · exact least_congr hc o
end
section
variable {one other B : List (Row α)} {house goal : α} {many : Nat} {r0 : Row α} {c : α → Int}
theorem Linked.opt (L : Linked one other B house goal many r0) {m : Bool} {f1 f2 : α → Nat} {come : Nat} (h1 : Opt m one c f1) (hc : (come : Int) = min (many : Int) (held one c f1 r0)) (h2 : Opt m other (addC c goal (come : Int)) f2) : Opt m B c (comb other house f1 come f2) := by
  cases m
  · exact L.great h1 hc h2
  · exact L.least h1 hc h2
theorem Linked.come0 (L : Linked one other B house goal many r0) (f1 : α → Nat) (h0 : 0 ≤ c house) : 0 ≤ held one c f1 r0 := by
  have := got_nonneg L.G1 f1 r0.1
  unfold held
  rw [L.hp, out_nil, L.hn]
  rw [L.hn] at this
  omega
/-- all that the one's house has made is nothing -/
theorem Linked.eqOne (L : Linked one other B house goal many r0) {f1 g1 : α → Nat} (wf : Within one f1) (wg : Within one g1) : EqOn one f1 g1 ↔ ∀ r ∈ one, r.1 ≠ house → f1 r.1 = g1 r.1 := by
  constructor
  · exact fun h r hr _ => h r hr
  · intro h r hr
    by_cases e : r.1 = house
    · have h1 := wf r hr
      have h2 := wg r hr
      rw [L.empty r hr e] at h1 h2
      simp only [List.length_nil] at h1 h2
      omega
    · exact h r hr e
theorem Linked.flow (L : Linked one other B house goal many r0) {f1 f2 g1 g2 fB gB : α → Nat} {k m : Nat} (h1 : Least one c f1) (hk : (k : Int) = min (many : Int) (held one c f1 r0)) (h2 : Least other (addC c goal (k : Int)) f2) (i1 : Great one c g1) (hm : (m : Int) = min (many : Int) (held one c g1 r0)) (i2 : Great other (addC c goal (m : Int)) g2)
    (hB : Least B c fB) (iB : Great B c gB) : EqOn B fB gB ↔ EqOn one f1 g1 ∧ k = m ∧ EqOn other f2 g2 := by
  have e1 := least_eq hB (L.least h1 hk h2)
  have e2 := great_eq iB (L.great i1 hm i2)
  rw [L.eqOne h1.1.1 i1.1.1, ← L.eq_iff]
  constructor
  · intro h R hR
    rw [← e1 R hR, ← e2 R hR]
    exact h R hR
  · intro h R hR
    rw [e1 R hR, e2 R hR]
    exact h R hR
theorem setC_add {z goal : α} {c : α → Int} {v k : Int} (hn : z ≠ goal) : addC (setC c z v) goal k = setC (addC c goal k) z v := by
  funext y
  unfold addC setC
  by_cases e1 : y = z
  · rw [if_pos e1, if_pos e1, if_neg (by rw [e1]; exact hn)]
    omega
  · rw [if_neg e1, if_neg e1]
/-- a house of the one is rich enough exactly if what comes then is enough -/
theorem Linked.enough (L : Linked one other B house goal many r0) {f1 f2 gl : α → Nat} {k : Nat} (h1 : Least one c f1) (hk : (k : Int) = min (many : Int) (held one c f1 r0)) (h2 : Least other (addC c goal (k : Int)) f2) (g1 : ∀ r ∈ one, gl r.1 = 0) (g2 : ∀ q ∈ other, gl q.1 = q.2.2.length) :
    Reach B c gl ↔ ∀ q ∈ other, f2 q.1 = q.2.2.length := by
  rw [L.reach2 g1 (L.least h1 hk h2)]
  constructor
  · intro h q hq
    have a := h q hq
    rw [g2 q hq] at a
    have b := h2.1.1 q hq
    omega
  · intro h q hq
    rw [g2 q hq, h q hq]
    exact Nat.le_refl _
end
end KQ
namespace KQ
variable {α : Type} [DecidableEq α]
/-! ### payments one by one, and back -/
def Steps (qs : List (Row α)) (c : α → Int) : (α → Nat) → List α → (α → Nat) → Prop
  | f, [], g => f = g
  | f, n :: s, g => ∃ r ∈ qs, r.1 = n ∧ ∃ x, r.2.2[f n]? = some x ∧ x.2 ≤ held qs c f r ∧ Steps qs c (bump f n) s g
def Backs (qs : List (Row α)) (c : α → Int) : (α → Nat) → List α → (α → Nat) → Prop
  | f, [], g => f = g
  | f, n :: s, g => ∃ r ∈ qs, r.1 = n ∧ f n ≠ 0 ∧ held qs c f r < 0 ∧ Backs qs c (drop f n) s g
section
variable {qs : List (Row α)} {c d : α → Int} {f g h : α → Nat} {s t : List α}
theorem Steps.append : ∀ {s : List α} {f : α → Nat}, Steps qs c f s g → Steps qs c g t h → Steps qs c f (s ++ t) h
  | [], f, h1, h2 => by
    have h1 : f = g := h1
    subst h1
    exact h2
  | n :: s, f, ⟨r, hr, hn, x, hx, hp, h1⟩, h2 => ⟨r, hr, hn, x, hx, hp, Steps.append h1 h2⟩
theorem Backs.append : ∀ {s : List α} {f : α → Nat}, Backs qs c f s g → Backs qs c g t h → Backs qs c f (s ++ t) h
  | [], f, h1, h2 => by
    have h1 : f = g := h1
    subst h1
    exact h2
  | n :: s, f, ⟨r, hr, hn, hx, hp, h1⟩, h2 => ⟨r, hr, hn, hx, hp, Backs.append h1 h2⟩
theorem Steps.more (hc : ∀ r ∈ qs, c r.1 ≤ d r.1) : ∀ {s : List α} {f : α → Nat}, Steps qs c f s g → Steps qs d f s g
  | [], f, h1 => h1
  | n :: s, f, ⟨r, hr, hn, x, hx, hp, h1⟩ => ⟨r, hr, hn, x, hx, by
    have := hc r hr
    unfold held at hp ⊢
    omega, Steps.more hc h1⟩
theorem Steps.one {r : Row α} {x : α × Int} (hr : r ∈ qs) (hx : r.2.2[f r.1]? = some x) (hp : x.2 ≤ held qs c f r) : Steps qs c f [r.1] (bump f r.1) := ⟨r, hr, rfl, x, hx, hp, rfl⟩
theorem Backs.one {r : Row α} (hr : r ∈ qs) (h0 : f r.1 ≠ 0) (hp : held qs c f r < 0) : Backs qs c f [r.1] (drop f r.1) := ⟨r, hr, rfl, h0, hp, rfl⟩
theorem Steps.within (G : Good qs) : ∀ {s : List α} {f : α → Nat}, Steps qs c f s g → Within qs f → Within qs g
  | [], f, h1, w => by
    have h1 : f = g := h1
    subst h1
    exact w
  | n :: s, f, ⟨r, hr, hn, x, hx, hp, h1⟩, w => by
    refine Steps.within G h1 fun q hq => ?_
    subst hn
    by_cases e : q.1 = r.1
    · have := row_eq G.nd hq hr e
      subst this
      rw [bump_same]
      exact (List.getElem?_eq_some_iff.mp hx).1
    · rw [bump_ne e]
      exact w q hq
theorem Steps.below (G : Good qs) : ∀ {s : List α} {f : α → Nat}, Steps qs c f s g → Below qs c f → Below qs c g
  | [], f, h1, w => by
    have h1 : f = g := h1
    subst h1
    exact w
  | n :: s, f, ⟨r, hr, hn, x, hx, hp, h1⟩, w => by
    subst hn
    exact Steps.below G h1 (below_step G w hr hx hp)
theorem Backs.above (G : Good qs) : ∀ {s : List α} {f : α → Nat}, Backs qs c f s g → Above qs c f → Above qs c g
  | [], f, h1, w => by
    have h1 : f = g := h1
    subst h1
    exact w
  | n :: s, f, ⟨r, hr, hn, h0, hp, h1⟩, w => by
    subst hn
    exact Backs.above G h1 (above_step G w hr hp)
theorem mc_steps {w : Row α → Int} : ∀ {s : List α} {f : α → Nat}, Steps (mc w qs) c f s g ↔ Steps qs c f s g
  | [], f => Iff.rfl
  | n :: s, f => by
    constructor
    · rintro ⟨q, hq, hn, x, hx, hp, h1⟩
      obtain ⟨r, hr, rfl⟩ := mc_mem hq
      rw [mc_held] at hp
      exact ⟨r, hr, hn, x, hx, hp, mc_steps.mp h1⟩
    · rintro ⟨r, hr, hn, x, hx, hp, h1⟩
      exact ⟨_, mc_in hr, hn, x, hx, by rw [mc_held]; exact hp, mc_steps.mpr h1⟩
theorem mc_backs {w : Row α → Int} : ∀ {s : List α} {f : α → Nat}, Backs (mc w qs) c f s g ↔ Backs qs c f s g
  | [], f => Iff.rfl
  | n :: s, f => by
    constructor
    · rintro ⟨q, hq, hn, hx, hp, h1⟩
      obtain ⟨r, hr, rfl⟩ := mc_mem hq
      rw [mc_held] at hp
      exact ⟨r, hr, hn, hx, hp, mc_backs.mp h1⟩
    · rintro ⟨r, hr, hn, hx, hp, h1⟩
      exact ⟨_, mc_in hr, hn, hx, by rw [mc_held]; exact hp, mc_backs.mpr h1⟩
theorem Steps.congr (hc : ∀ r ∈ qs, c r.1 = d r.1) (h1 : Steps qs c f s g) : Steps qs d f s g := h1.more fun r hr => Int.le_of_eq (hc r hr)
theorem Backs.congr (hc : ∀ r ∈ qs, c r.1 = d r.1) : ∀ {s : List α} {f : α → Nat}, Backs qs c f s g → Backs qs d f s g
  | [], f, h1 => h1
  | n :: s, f, ⟨r, hr, hn, h0, hp, h1⟩ => ⟨r, hr, hn, h0, by
    have := hc r hr
    unfold held at hp ⊢
    omega, Backs.congr hc h1⟩
end
end KQ
/-! enumerate(tuple); zip of a tuple and a list -/
namespace NQ
open PySem PySem.Spec PyProof.Rows L2
open PySem.AutoSeq1 (wpAny_loadPart')
theorem meets_enumT (t : Addr) (its : Array Value) : Meets (Builtin.«enumerate.__new__» ⟨[.type "enumerate", .ref t], []⟩) (fun _ R s => s.heap.IsTuple t its ∧
    R (.ok (.ret (.ref (s.heap.push { cls := .type "tuple_iterator", data := .fields #[.ref t, .int 0 0] }).objs.size)))
      { s with heap := (s.heap.push { cls := .type "tuple_iterator", data := .fields #[.ref t, .int 0 0] }).push { cls := .type "enumerate", data := .fields #[.none, .bool false, .ref s.heap.objs.size, rawInt 0, .none, .none] } }) :=
  .of_wp fun prog w A R s h => by
    obtain ⟨hp, g, d, tk, os⟩ := s
    obtain ⟨ht, h⟩ := h
    have sub := sub_enumerate
    have tup : Heap.IsTuple (Shared.heap ⟨hp, g, d, tk, os⟩) t its := ht
    wp_walk using wpAny_pyIter_tuple tup
    refine wpAny_stack_any fun st => wpAny_pure ?_
    split
    · rename_i c _ _ _ _ _
      cases (c == Value.type "enumerate")
      · wp_walk using wpAny_pyIter_tuple tup
        exact ⟨_, rfl, h⟩
      · wp_walk using wpAny_pyIter_tuple tup
        exact ⟨_, rfl, h⟩
    · wp_walk using wpAny_pyIter_tuple tup
      exact ⟨_, rfl, h⟩
theorem call_enumT {prog : Program} {w : World} {A : Around} {E : Value → Shared → Prop} {s : Shared} {t : Addr} {its : Array Value} {Q : Value → Shared → Prop} (ht : s.heap.IsTuple t its)
    (h : ∀ h', IsEnum h' (s.heap.objs.size + 1) s.heap.objs.size 0 .none → h'.IsTupleIter s.heap.objs.size t 0 → (∀ b o, s.heap.get? b = some o → h'.get? b = some o) → Q (.ref (s.heap.objs.size + 1)) { s with heap := h' }) :
    wpAny (model prog w) A (call (.type "enumerate") [.ref t]) Q E s := by
  refine callType_new F.called_enumerate (by decide) (F.typeCall_enumerate_1 _) (F.newCall_enumerate_1 _) (fun obj => F.args_object_init_2 obj _) F.entry_enumerate_new (meets_enumT t its) ⟨ht, ?_⟩
  have z1 : (s.heap.push { cls := .type "tuple_iterator", data := .fields #[.ref t, .int 0 0] }).objs.size = s.heap.objs.size + 1 := Heap.size_push ..
  show _ ∧ _
  rw [z1]
  have he := Heap.get?_push_size (s.heap.push { cls := .type "tuple_iterator", data := .fields #[.ref t, .int 0 0] }) (o := { cls := .type "enumerate", data := .fields #[.none, .bool false, .ref s.heap.objs.size, rawInt 0, .none, .none] }) rfl
  rw [z1] at he
  exact ⟨⟨_, he, rfl⟩, h _ he ⟨_, Heap.get?_push_of_some _ (Heap.get?_push_size _ rfl), rfl, rfl⟩ fun b o x => Heap.get?_push_of_some _ (Heap.get?_push_of_some _ x)⟩
/-- the tuple at a, each item in a new pair with its number -/
def IteT (K : PySem.W.Frag) (a : Addr) : It :=
  ⟨fun i H => ∃ (xs : List V) (x : V), SqT K H a xs ∧ xs[i]? = some x, fun i H v H' => ∃ T x, v = .ref T ∧ H T = none ∧ H' = upd H T (.tup [.int (i : Nat), x]) ∧ ∀ xs, SqT K H a xs → xs[i]? = some x, fun i H => ∃ xs : List V, SqT K H a xs ∧ xs.length = i⟩
theorem turn_enumT {P : Program} {w : World} {K : PySem.W.Frag} {elts : List Expr} {kk : Nat} {tpos : Pos} (a e it : Addr) :
    Turn P w K (.Tuple elts kk tpos) (IteT K a) [e, it] e (fun i h => (∃ old, IsEnum h e it ((i : Nat) : Int) old) ∧ h.IsTupleIter it a i ∧ e ≠ it ∧ a ≠ it ∧ a ≠ e) where
  mem := by simp
  obj := fun i h ⟨⟨old, he⟩, ⟨o, ho, _, hd⟩, _⟩ b hb => by
    rcases List.mem_cons.mp hb with z | z
    · rw [z]
      exact ⟨_, he, fun v q => nomatch q⟩
    · rw [List.mem_singleton.mp z]
      exact ⟨o, ho, fun v q => by rw [hd] at q; cases q⟩
  keep := fun i h h' ⟨⟨old, he⟩, hi, rest⟩ k => ⟨⟨old, k e (by simp) _ he⟩, hi.at fun o q => k it (by simp) o q, rest⟩
  item := by
    intro X hP hw hK hc i pins s σ H E I hf st hg
    subst hP hw hK
    obtain ⟨⟨old, he⟩, hit, hne, nai, nae⟩ := st
    obtain ⟨xs, x, hq, hx⟩ := hg
    obtain ⟨its, rv, p, hz⟩ := I.tuple hq
    obtain ⟨u, hu, ru⟩ := rv.get hx
    have hel : e < s.heap.objs.size := Heap.lt_size he
    have hil : it < s.heap.objs.size := by
      obtain ⟨_, q, _⟩ := hit
      exact Heap.lt_size q
    have hi : i < its.toArray.size := by
      have := (List.getElem?_eq_some_iff.mp hu).1
      simpa using this
    have drw := Draws.tuple (prog := X.prog) (w := X.w) (A := X.A.in1) (show X.A.in1.handled = none from I.ok.hd hc) it a nai its.toArray
    refine wpAny_pyNext_enum_itemD drw he ⟨hit, p⟩ hi hne (by simp [hne, Ne.symm nae]) fun y h' tk hy ho hst hT hsz hk => ?_
    obtain rfl : y = u := by
      have e2 : its.toArray[i]? = some u := by simpa using hu
      rw [e2] at hy
      exact (Option.some.inj hy).symm
    refine ⟨_, rfl, wpAny_letOwnedTupleGo_enum (s := { s with heap := h', toks := tk + 1 }) ho fun h'' he' sb => ?_⟩
    have hT2 := (sb.2 _ (Nat.ne_of_gt hel)).trans hT
    have new : ObjOk X.prog X.w (upd H s.heap.objs.size (.tup [.int (i : Nat), x])) h'' s.heap.objs.size (.tup [.int (i : Nat), x]) :=
      ⟨by show 2 ≤ sizeLine; decide, [.int i tk, y], .cons ⟨_, rfl⟩ (.cons ru .nil), ⟨_, hT2, rfl, _, rfl⟩⟩
    have I1 : Inv X pins σ (upd H s.heap.objs.size (.tup [.int (i : Nat), x])) { s with heap := h'', toks := tk + 1 } :=
      I.turnedNew (ch := [e, it]) (fun b ob hb q => (sb.2 b (fun z => hb (by simp [z]))).trans (hk b ob (fun z => hb (by simp [z])) (fun z => hb (by simp [z])) q)) hf (Nat.le_refl _) new
    refine ⟨.ref s.heap.objs.size, _, I1, rfl, ⟨_, x, rfl, I.hok.fresh (Nat.le_refl _), rfl, fun ys hy => by rw [I.tuple_inj hy hq]; exact hx⟩, ⟨⟨y, ?_⟩, hst.1.at fun o q => (sb.2 it (Ne.symm hne)).trans q, hne, nai, nae⟩, fun b hb => ?_⟩
    · have e1 : ((i + 1 : Nat) : Int) = (i : Int) + 1 := by omega
      rw [e1]
      exact he'
    · have hb' : b < s.heap.objs.size := by
        rcases List.mem_cons.mp hb with z | z
        · rw [z]
          exact hel
        · rw [List.mem_singleton.mp z]
          exact hil
      rw [upd_ne (Nat.ne_of_lt hb')]
      exact (hf b hb).1
  done := by
    intro X hP hw hK hc i pins s σ H E I hf st hg
    subst hP hw hK
    obtain ⟨⟨old, he⟩, hit, hne, nai, nae⟩ := st
    obtain ⟨xs, hq, hx⟩ := hg
    obtain ⟨its, rv, p, hz⟩ := I.tuple hq
    obtain ⟨f0, f1, f2, f3, f4, f5⟩ := hf it (by simp)
    have hl : its.toArray.size = i := by
      rw [List.size_toArray, ← rv.length, hx]
    have drw := Draws.tuple (prog := X.prog) (w := X.w) (A := X.A.in1) (show X.A.in1.handled = none from I.ok.hd hc) it a nai its.toArray
    refine wpAny_pyNext_enum_endD drw he ⟨by rw [hl]; exact hit, p⟩ fun h' eb => ⟨rfl, I.turned (t' := s.toks) (fun b o hb q => eb b o hb q) f0 f1 f3 f4 f5⟩
  self := fun A i s Q E st h => by
    obtain ⟨⟨_, he⟩, _⟩ := st
    exact wpAny_pyIter_enum he h
def iEnumT (K : PySem.W.Frag) (ta : TA) : TI := fun σ H R => ta σ H fun vs H1 => ∃ a xs, vs = [.ref a] ∧ SqT K H1 a xs ∧ R (IteT K a) H1
theorem pi_enumT {X : Cx} {e : Expr} {ta : TA} {p pos tpos : Pos} {elts : List Expr} {kk : Nat} (hg : Gl X "enumerate") (hm : X.mg "enumerate" = none) (ha : PA X [e] ta) (hs : starEach [e] X.env = [(false, eval e X.env)] := by rfl) :
    PI X (.Tuple elts kk tpos) (.Call (.Name "enumerate" p) [e] [] pos) (iEnumT X.K ta) := by
  refine ⟨fun pins s σ H R I h => Call_ (ld_blt I hg hm boot_enumerate (PyProof.Rows.callWith_type1 (thn (ha.run pos pins s σ H _ I h) fun us s1 hh => ?_) hs rfl))⟩
  obtain ⟨vs, H1, I1, r1, a, xs, rfl, hq, q⟩ := hh
  cases r1 with
  | cons r rr =>
    cases rr
    cases r
    obtain ⟨its, rv, p', hz⟩ := I1.tuple hq
    have ltA : a < s1.heap.objs.size := by
      obtain ⟨_, z, _⟩ := id p'
      exact Heap.lt_size z
    refine call_enumT (show s1.heap.IsTuple a its.toArray from p') fun h' he hit hk => wpAny_pyIter_enum he ?_
    have I2 : Inv X pins σ H1 { s1 with heap := h' } := I1.kept (t' := s1.toks) hk
    refine ⟨s1.heap.objs.size + 1, [s1.heap.objs.size + 1, s1.heap.objs.size], _, _, H1, rfl, I2, turn_enumT a (s1.heap.objs.size + 1) s1.heap.objs.size, ⟨⟨.none, he⟩, hit, Nat.succ_ne_self _, Nat.ne_of_lt ltA, Nat.ne_of_lt (Nat.lt_succ_of_lt ltA)⟩, fun b hb => ?_, q⟩
    have hle : s1.heap.objs.size ≤ b := by
      rcases List.mem_cons.mp hb with z | z
      · rw [z]
        exact Nat.le_add_right _ _
      · rw [List.mem_singleton.mp z]
        exact Nat.le_refl _
    exact I1.fpOk hle (I1.hok.fresh hle)
end NQ
/-! zip of a tuple and a list -/
namespace NQ
open PySem PySem.W PySem.Spec PyProof.Rows L2
open PySem.AutoSeq1 (wpAny_loadPart')
abbrev zM1 (h : Heap) (t : Addr) : Heap := h.push { cls := .type "tuple_iterator", data := .fields #[.ref t, .int 0 0] }
abbrev zM2 (h : Heap) (t l : Addr) : Heap := (zM1 h t).push { cls := .type "list_iterator", data := .fields #[.ref l, .int 0 0] }
abbrev zM3 (h : Heap) (t l : Addr) : Heap := (zM2 h t l).push { cls := .type "tuple", data := .seq #[.ref h.objs.size, .ref (zM1 h t).objs.size] }
abbrev zM4 (h : Heap) (t l : Addr) : Heap := (zM3 h t l).push { cls := .type "tuple", data := .seq #[.none, .none] }
abbrev zM5 (h : Heap) (t l : Addr) : Heap := (zM4 h t l).push { cls := .type "zip", data := .fields #[.none, .bool false, .bool false, .ref (zM2 h t l).objs.size, .ref (zM3 h t l).objs.size] }
theorem meets_zipM (t l : Addr) (xs ys : Array Value) : Meets (Builtin.«zip.__new__» ⟨[.type "zip", .ref t, .ref l], []⟩) (fun _ R s => s.heap.IsTuple t xs ∧ s.heap.IsList l ys ∧ R (.ok (.ret (.ref (zM4 s.heap t l).objs.size))) { s with heap := zM5 s.heap t l }) :=
  .of_wp fun prog w A R s h => by
    obtain ⟨hp, g, d, tk, os⟩ := s
    obtain ⟨h1, h2, h⟩ := h
    have sub := sub_zip
    have first : Heap.IsTuple (Shared.heap ⟨hp, g, d, tk, os⟩) t xs := h1
    have second : Heap.IsList (Shared.heap ⟨hp.push { cls := .type "tuple_iterator", data := .fields #[.ref t, .int 0 0] }, g, d, tk, os⟩) l ys := Heap.IsList.push h2 _
    wp_walk using wpAny_pyIter_tuple first, wpAny_pyIter_list second
    exact ⟨_, rfl, h⟩
theorem call_zipM {prog : Program} {w : World} {A : Around} {E : Value → Shared → Prop} {s : Shared} {t l : Addr} {xs ys : Array Value} {Q : Value → Shared → Prop} (h1 : s.heap.IsTuple t xs) (h2 : s.heap.IsList l ys)
    (h : ∀ h', IsZip h' (s.heap.objs.size + 4) (s.heap.objs.size + 2) (s.heap.objs.size + 3) .none → IsTupOf2 h' (s.heap.objs.size + 2) (.ref s.heap.objs.size) (.ref (s.heap.objs.size + 1)) → IsTupOf2 h' (s.heap.objs.size + 3) .none .none →
      h'.IsTupleIter s.heap.objs.size t 0 → h'.IsListIter (s.heap.objs.size + 1) l 0 → (∀ c o, s.heap.get? c = some o → h'.get? c = some o) → Q (.ref (s.heap.objs.size + 4)) { s with heap := h' }) :
    wpAny (model prog w) A (call (.type "zip") [.ref t, .ref l]) Q E s := by
  refine callType_new F.called_zip (by decide) (F.typeCall_zip_2 _ _) (F.newCall_zip_2 _ _) (fun obj => F.args_object_init_3 obj _ _) F.entry_zip_new (meets_zipM t l xs ys) ⟨h1, h2, ?_⟩
  have s1 : (zM1 s.heap t).objs.size = s.heap.objs.size + 1 := Heap.size_push ..
  have s2 : (zM2 s.heap t l).objs.size = s.heap.objs.size + 2 := by rw [Heap.size_push, s1]
  have s3 : (zM3 s.heap t l).objs.size = s.heap.objs.size + 3 := by rw [Heap.size_push, s2]
  have s4 : (zM4 s.heap t l).objs.size = s.heap.objs.size + 4 := by rw [Heap.size_push, s3]
  have a5 : (zM5 s.heap t l).get? (zM4 s.heap t l).objs.size = some _ := Heap.get?_push_size _ rfl
  have p3 : ∀ b o, (zM3 s.heap t l).get? b = some o → (zM5 s.heap t l).get? b = some o := fun b o x => Heap.get?_push_of_some _ (Heap.get?_push_of_some _ x)
  have p2 : ∀ b o, (zM2 s.heap t l).get? b = some o → (zM5 s.heap t l).get? b = some o := fun b o x => p3 b o (Heap.get?_push_of_some _ x)
  have p1 : ∀ b o, (zM1 s.heap t).get? b = some o → (zM5 s.heap t l).get? b = some o := fun b o x => p2 b o (Heap.get?_push_of_some _ x)
  have a4 : (zM5 s.heap t l).get? (zM3 s.heap t l).objs.size = some _ := Heap.get?_push_of_some _ (Heap.get?_push_size _ rfl)
  have a3 : (zM5 s.heap t l).get? (zM2 s.heap t l).objs.size = some _ := p3 _ _ (Heap.get?_push_size _ rfl)
  have a2 : (zM5 s.heap t l).get? (zM1 s.heap t).objs.size = some _ := p2 _ _ (Heap.get?_push_size _ rfl)
  have a1 : (zM5 s.heap t l).get? s.heap.objs.size = some _ := p1 _ _ (Heap.get?_push_size _ rfl)
  show _ ∧ _
  rw [s2, s3, s4] at a5
  rw [s3] at a4
  rw [s1, s2] at a3
  rw [s1] at a2
  rw [s4]
  exact ⟨⟨_, a5, rfl⟩, h _ a5 a3 a4 ⟨_, a1, rfl, rfl⟩ ⟨_, a2, rfl, rfl⟩ fun c o x => p1 c o (Heap.get?_push_of_some _ x)⟩
/-- the tuple at a and the list at b as they stand at each turn, the items in new pairs -/
def ItzM (K : PySem.W.Frag) (a b : Addr) : It :=
  ⟨fun i H => ∃ (xs ys : List V) (x y : V), SqT K H a xs ∧ SqL K H b ys ∧ xs[i]? = some x ∧ ys[i]? = some y,
    fun i H v H' => ∃ T x y, v = .ref T ∧ H T = none ∧ H' = upd H T (.tup [x, y]) ∧ (∀ xs, SqT K H a xs → xs[i]? = some x) ∧ ∀ ys, SqL K H b ys → ys[i]? = some y,
    fun i H => ∃ xs ys : List V, SqT K H a xs ∧ SqL K H b ys ∧ i ≤ xs.length ∧ i ≤ ys.length ∧ (i = xs.length ∨ i = ys.length)⟩
structure ApartM (z TI TO i1 i2 a b : Addr) : Prop where
  sep : ZipSep2 z TI TO i1 i2 [i1, a] [i2, b]
  ne1 : a ≠ i1
  ne2 : b ≠ i2
theorem off_by {a b : Addr} (h : @LT.lt Nat _ a b ∨ @LT.lt Nat _ b a) : a ≠ b := fun e => by
  subst e
  rcases h with h | h <;> exact Nat.lt_irrefl _ h
theorem off_two {a b c : Addr} (h : a ≠ b) (k : a ≠ c) : a ∉ [b, c] := fun m => by
  rcases List.mem_cons.mp m with e | e
  · exact h e
  · exact k (List.mem_singleton.mp e)
theorem apartM {n a b : Nat} (la : a < n) (lb : b < n) : ApartM (n + 4) (n + 2) (n + 3) n (n + 1) a b :=
  ⟨⟨off_by (by omega), off_by (by omega), off_by (by omega), off_by (by omega), by simp, off_two (off_by (by omega)) (off_by (by omega)), off_two (off_by (by omega)) (off_by (by omega)), off_by (by omega), by simp, off_two (off_by (by omega)) (off_by (by omega)), off_two (off_by (by omega)) (off_by (by omega)),
    off_two (off_by (by omega)) (off_by (by omega)), off_two (off_by (by omega)) (off_by (by omega))⟩, off_by (by omega), off_by (by omega)⟩
theorem turn_zipM {P : Program} {w : World} {K : PySem.W.Frag} {elts : List Expr} {kk : Nat} {tpos : Pos} {a b z TI TO i1 i2 : Addr} (S : ApartM z TI TO i1 i2 a b) :
    Turn P w K (.Tuple elts kk tpos) (ItzM K a b) [z, TI, TO, i1, i2] z (fun i h => IsZip h z TI TO .none ∧ IsTupOf2 h TI (.ref i1) (.ref i2) ∧ (∃ x y, IsTupOf2 h TO x y) ∧ h.IsTupleIter i1 a i ∧ h.IsListIter i2 b i) where
  mem := by simp
  obj := fun i h ⟨hz, hTI, ⟨x, y, hTO⟩, ⟨o1, e1, _, d1⟩, ⟨o2, e2, _, d2⟩⟩ c hc => by
    simp only [List.mem_cons, List.not_mem_nil, or_false] at hc
    rcases hc with rfl | rfl | rfl | rfl | rfl
    · exact ⟨_, hz, fun v q => nomatch q⟩
    · exact ⟨_, hTI, fun v q => nomatch q⟩
    · exact ⟨_, hTO, fun v q => nomatch q⟩
    · exact ⟨o1, e1, fun v q => by rw [d1] at q; cases q⟩
    · exact ⟨o2, e2, fun v q => by rw [d2] at q; cases q⟩
  keep := fun i h h' ⟨hz, hTI, ⟨x, y, hTO⟩, h1, h2⟩ k => ⟨k z (by simp) _ hz, k TI (by simp) _ hTI, ⟨x, y, k TO (by simp) _ hTO⟩, h1.at fun o q => k i1 (by simp) o q, h2.at fun o q => k i2 (by simp) o q⟩
  item := by
    intro X hP hw hK hc i pins s σ H E I hf st hg
    subst hP hw hK
    obtain ⟨hz, hTI, ⟨x0, y0, hTO⟩, h1, h2⟩ := st
    obtain ⟨xs, ys, x, y, hqx, hqy, hx, hy⟩ := hg
    obtain ⟨its, rv, p, _⟩ := I.tuple hqx
    obtain ⟨its2, rv2, p2, _⟩ := I.list hqy
    obtain ⟨u, hu, ru⟩ := rv.get hx
    obtain ⟨u2, hu2, ru2⟩ := rv2.get hy
    have hzl : z < s.heap.objs.size := Heap.lt_size hz
    have calm : X.A.in1.handled = none := I.ok.hd hc
    have d1 := Draws.tuple (prog := X.prog) (w := X.w) (A := X.A.in1) calm i1 a S.ne1 its.toArray
    have d2 := Draws.list (prog := X.prog) (w := X.w) (A := X.A.in1) calm i2 b S.ne2 its2.toArray
    have l1 : i < its.toArray.size := by
      have := (List.getElem?_eq_some_iff.mp hu).1
      simpa using this
    have l2 : i < its2.toArray.size := by
      have := (List.getElem?_eq_some_iff.mp hu2).1
      simpa using this
    refine wpAny_pyNext_zipD2_item S.sep d1 d2 hz hTI hTO ⟨h1, p⟩ ⟨h2, p2.isList⟩ l1 l2 fun w1 w2 h' tk q1 q2 z' TO' st1 st2 hT hsz hk => ?_
    obtain rfl : w1 = u := by
      have e2 : its.toArray[i]? = some u := by simpa using hu
      rw [e2] at q1
      exact (Option.some.inj q1).symm
    obtain rfl : w2 = u2 := by
      have e2 : its2.toArray[i]? = some u2 := by simpa using hu2
      rw [e2] at q2
      exact (Option.some.inj q2).symm
    refine ⟨_, rfl, wpAny_letOwnedTupleGo_zip (s := { s with heap := h', toks := tk }) z' fun h'' z'' sb => ?_⟩
    have hT2 := (sb.2 _ (Nat.ne_of_gt hzl)).trans hT
    have new : ObjOk X.prog X.w (upd H s.heap.objs.size (.tup [x, y])) h'' s.heap.objs.size (.tup [x, y]) :=
      ⟨by show 2 ≤ sizeLine; decide, [w1, w2], .cons ru (.cons ru2 .nil), ⟨_, hT2, rfl, _, rfl⟩⟩
    have I1 : Inv X pins σ (upd H s.heap.objs.size (.tup [x, y])) { s with heap := h'', toks := tk } :=
      I.turnedNew (t' := tk) (ch := [z, TI, TO, i1, i2]) (fun c o hb q => (sb.2 c (fun e => hb (by simp [e]))).trans (hk c o (fun e => hb (by simp [e])) (fun e => hb (by simp [e])) (fun e => hb (by simp [e])) (fun e => hb (by simp [e])) q)) hf (Nat.le_refl _) new
    have D := S.sep
    refine ⟨.ref s.heap.objs.size, _, I1, rfl, ⟨_, x, y, rfl, I.hok.fresh (Nat.le_refl _), rfl, fun l hl => by rw [I.tuple_inj hl hqx]; exact hx, fun l hl => by rw [I.list_inj hl hqy]; exact hy⟩, ⟨z'', ?_, ⟨w1, w2, ?_⟩, ?_, ?_⟩, fun c hcm => ?_⟩
    · exact (sb.2 _ D.TIz).trans (hk _ _ D.TIz D.TITO D.TIi1 D.TIi2 hTI)
    · exact (sb.2 _ D.TOz).trans TO'
    · exact st1.1.at fun o q => (sb.2 _ (Ne.symm D.zi1)).trans q
    · exact st2.1.at fun o q => (sb.2 _ (Ne.symm D.zi2)).trans q
    · have hlt : c < s.heap.objs.size := by
        simp only [List.mem_cons, List.not_mem_nil, or_false] at hcm
        rcases hcm with rfl | rfl | rfl | rfl | rfl
        · exact hzl
        · exact Heap.lt_size hTI
        · exact Heap.lt_size hTO
        · obtain ⟨_, e1, _⟩ := h1
          exact Heap.lt_size e1
        · obtain ⟨_, e2, _⟩ := h2
          exact Heap.lt_size e2
      rw [upd_ne (Nat.ne_of_lt hlt)]
      exact (hf c hcm).1
  done := by
    intro X hP hw hK hc i pins s σ H E I hf st hg
    subst hP hw hK
    obtain ⟨hz, hTI, ⟨x0, y0, hTO⟩, h1, h2⟩ := st
    obtain ⟨xs, ys, hqx, hqy, n1, n2, hend⟩ := hg
    obtain ⟨its, rv, p, _⟩ := I.tuple hqx
    obtain ⟨its2, rv2, p2, _⟩ := I.list hqy
    have calm : X.A.in1.handled = none := I.ok.hd hc
    have d1 := Draws.tuple (prog := X.prog) (w := X.w) (A := X.A.in1) calm i1 a S.ne1 its.toArray
    have d2 := Draws.list (prog := X.prog) (w := X.w) (A := X.A.in1) calm i2 b S.ne2 its2.toArray
    have e1 : its.toArray.size = xs.length := by rw [List.size_toArray, ← rv.length]
    have e2 : its2.toArray.size = ys.length := by rw [List.size_toArray, ← rv2.length]
    exact wpAny_pyNext_zipD2_end S.sep d1 d2 hz hTI hTO ⟨h1, p⟩ ⟨h2, p2.isList⟩ (by rw [e1]; exact n1) (by rw [e2]; exact n2) (by rw [e1, e2]; exact hend) fun h' tk hk => ⟨rfl, I.turnedL (t' := tk) (ch := [z, TI, TO, i1, i2]) (fun c o hb q =>
      hk c o (fun e => hb (by simp [e])) (fun e => hb (by simp [e])) (fun e => hb (by simp [e])) (fun e => hb (by simp [e])) q) hf⟩
  self := fun A i s Q E st h => wpAny_pyIter_zip st.1 h
def iZipM (K : PySem.W.Frag) (ta : TA) : TI := fun σ H R => ta σ H fun vs H1 => ∃ a b xs ys, vs = [.ref a, .ref b] ∧ SqT K H1 a xs ∧ SqL K H1 b ys ∧ R (ItzM K a b) H1
theorem pi_zipM {X : Cx} {e e2 : Expr} {ta : TA} {p pos tpos : Pos} {elts : List Expr} {kk : Nat} (hg : Gl X "zip") (hm : X.mg "zip" = none) (ha : PA X [e, e2] ta)
    (hs : starEach [e, e2] X.env = (false, eval e X.env) :: starEach [e2] X.env := by rfl) (hpl : (backTo pos (starEach [e2] X.env)).any (·.1) = false := by rfl) :
    PI X (.Tuple elts kk tpos) (.Call (.Name "zip" p) [e, e2] [] pos) (iZipM X.K ta) := by
  refine ⟨fun pins s σ H R I h => Call_ (ld_blt I hg hm PyProof.Rows.boot_zip (PyProof.Rows.callWith_type1 (thn (ha.run pos pins s σ H _ I h) fun us s1 hh => ?_) hs hpl))⟩
  obtain ⟨vs, H1, I1, r1, a, b, xs, ys, rfl, hqx, hqy, q⟩ := hh
  cases r1 with
  | cons r rr =>
    cases rr with
    | cons r' rr =>
      cases rr
      cases r
      cases r'
      obtain ⟨its, rv, p1, _⟩ := I1.tuple hqx
      obtain ⟨its2, rv2, p2, _⟩ := I1.list hqy
      have la : a < s1.heap.objs.size := by
        obtain ⟨_, z, _⟩ := id p1
        exact Heap.lt_size z
      have lb : b < s1.heap.objs.size := p2.lt
      refine call_zipM (show s1.heap.IsTuple a its.toArray from p1) p2.isList fun h' hz hTI hTO h1 h2 hk => wpAny_pyIter_zip hz ?_
      have I2 : Inv X pins σ H1 { s1 with heap := h' } := I1.kept (t' := s1.toks) hk
      refine ⟨s1.heap.objs.size + 4, [s1.heap.objs.size + 4, s1.heap.objs.size + 2, s1.heap.objs.size + 3, s1.heap.objs.size, s1.heap.objs.size + 1], _, _, H1, rfl, I2, turn_zipM (apartM la lb), ⟨hz, hTI, ⟨_, _, hTO⟩, h1, h2⟩, fun c hcm => ?_, q⟩
      have hle : s1.heap.objs.size ≤ c := by
        simp only [List.mem_cons, List.not_mem_nil, or_false] at hcm
        rcases hcm with rfl | rfl | rfl | rfl | rfl
        · exact Nat.le_add_right _ _
        · exact Nat.le_add_right _ _
        · exact Nat.le_add_right _ _
        · exact Nat.le_refl _
        · exact Nat.le_add_right _ _
      exact I1.fpOk hle (I1.hok.fresh hle)
end NQ
namespace NQ
open PySem PySem.Spec PyProof.Rows L2
/-! ### a def that may be called by its name -/
structure Cal (P : Program) (w : World) (K : PySem.W.Frag) (mg : Str → Option Value) (base : Heap) (CX : CXT) (k : Nat) (x : Str) (ps : List Str) (sp : Sp) : Prop where
  ex : ∃ (f : Addr) (fd : FuncData), FnOk P w K mg base CX k f fd ps sp ∧ mg x = some (.ref f) ∧ PySem.W.keepIn K (.ref f) = true ∧ Binds K fd ps []
section
variable {X : Cx} {k j : Nat} {x : Str} {ps : List Str} {sp : Sp} {p pos : Pos} {e : Expr} {es : List Expr} {t : TA}
theorem pe_cl (c : Cal X.prog X.w X.K X.mg X.base CX0 k x ps sp) (hr : Room j X.A) (hk : k ≤ j) (hg : Gl X x) (ha : PA X (e :: es) t)
    (hdb : (x == ("__debug__" : Str)) = false := by decide) (he : starEach (e :: es) X.env = (false, eval e X.env) :: starEach es X.env := by rfl)
    (hpl : (backTo pos (starEach es X.env)).any (·.1) = false := by rfl) : PE X (.Call (.Name x p) (e :: es) [] pos) (tCall sp [] E0 t) := by
  obtain ⟨f, fd, F, hm, kp, b⟩ := c.ex
  exact pe_call F (hr.mono hk) hg hm kp b .nil pass0 ha hdb he hpl
end
/-! ### items that are ints or texts, compared -/
def rLtA : R2 := fun x y H Q => (∃ i j, x = .int i ∧ y = .int j ∧ Q (.bl (decide (i < j))) H) ∨ ∃ i j, x = .str i ∧ y = .str j ∧ Q (.bl (decide (i.cps.toList < j.cps.toList))) H
theorem op_ltA {X : Cx} : OpR X (compareOp .Lt) rLtA := by
  intro pins s σ H x y v u Q I rx ry h
  rcases h with h | h
  · exact op_lt pins s σ H x y v u Q I rx ry h
  · exact op_lt_str pins s σ H x y v u Q I rx ry h
/-! ### a tuple made of a list, its object told; dict(..) of such a tuple of pairs -/
section
variable {X : Cx}
theorem call_tupF : CallR X (.type "tuple") (fun xs H Q => ∃ p ys, xs = [.ref p] ∧ SqL X.K H p ys ∧ ∀ l o, H l = none → o.dict = none → Q (.ref l) (upd H l (.frz o (.tup ys)))) := by
  intro pins s σ H xs us Q I r h
  obtain ⟨p, ys, rfl, hs, q⟩ := h
  obtain ⟨u, rfl, rx⟩ := vals1 r
  obtain rfl : u = Value.ref p := rx
  obtain ⟨its, rv, pl, hz⟩ := I.list hs
  refine call_tuple_list pl.isList (fun h' hk => ?_) (by rw [List.size_toArray, ← rv.length]; exact hz)
  have I1 : Inv X pins σ H { s with heap := h' } := I.kept (t' := s.toks) hk
  have get : (h'.push { cls := .type "tuple", data := .seq its.toArray }).get? h'.objs.size = some { cls := .type "tuple", data := .seq its.toArray } := Heap.get?_push_size _ rfl
  have ob : ObjOk X.prog X.w (upd H h'.objs.size (.frz { cls := .type "tuple", data := .seq its.toArray } (.tup ys))) (h'.push { cls := .type "tuple", data := .seq its.toArray }) h'.objs.size (.frz { cls := .type "tuple", data := .seq its.toArray } (.tup ys)) :=
    ⟨get, hz, its, rv, IsTup.new _ _⟩
  exact ⟨.ref h'.objs.size, _, I1.laid (t' := s.toks) (fun z o e => Heap.get?_push_of_some _ e) (Nat.le_refl _) ob, rfl, q _ _ (I1.hok.fresh (Nat.le_refl _)) rfl⟩
theorem call_dictT (hcalm : X.calm = true) : CallR X (.type "dict") (fun xs H Q => ∃ (a : Addr) (o : Obj) (ps : List Addr) (kvs : List (Key × V)), xs = [.ref a] ∧ H a = some (.frz o (.tup (ps.map V.ref))) ∧ o.dict = none ∧
    Paired (fun p kv => SqT X.K H p [kV kv.1, kv.2]) ps kvs ∧ ∀ p, H p = none → Q (.ref p) (upd H p (.dK (mergeK [] kvs)))) := by
  intro pins s σ H xs us Q I r h
  obtain ⟨a, o, ps, kvs, rfl, ha, hod, hp, q⟩ := h
  obtain ⟨u, rfl, rx⟩ := vals1 r
  obtain rfl : u = Value.ref a := rx
  obtain ⟨ho, hz, its, rv, o', ho', hc, n, hd⟩ := (show ObjOk X.prog X.w H s.heap a (.frz o (.tup (ps.map V.ref))) from I.hok a _ ha)
  have eo : o' = o := Option.some.inj (ho'.symm.trans ho)
  subst eo
  have ei := refs_at rv
  subst ei
  rw [List.length_map] at hz
  obtain ⟨prs, rel, hl, hpr⟩ := pairs_of I hp
  have hprs : ∀ j (hj : j < prs.length), ∃ (b : Addr) (u : Value), ps[j]? = some b ∧ IsTup s.heap b #[u, prs[j].2] ∧ keyIs prs[j].1 u = true := fun j hj => hpr j prs[j] (List.getElem?_eq_getElem hj)
  -- the pairs with their keys' values
  have cho : ∃ ws : List (Value × Value), ws.length = prs.length ∧ ∀ (j : Nat) (k v : Value), ws[j]? = some (k, v) → ∃ (b : Addr) (kk : Key), ps[j]? = some b ∧ IsTup s.heap b #[k, v] ∧ prs[j]? = some (kk, v) ∧ keyIs kk k = true := by
    clear ha hod hc hd ho ho' rv q
    have gen : ∀ m, m ≤ prs.length → ∃ ws : List (Value × Value), ws.length = m ∧ ∀ (j : Nat) (k v : Value), ws[j]? = some (k, v) → ∃ (b : Addr) (kk : Key), ps[j]? = some b ∧ IsTup s.heap b #[k, v] ∧ prs[j]? = some (kk, v) ∧ keyIs kk k = true := by
      intro m
      induction m with
      | zero => exact fun _ => ⟨[], rfl, fun j k v e => by simp at e⟩
      | succ m ih =>
        intro hm
        obtain ⟨ws, e1, e2⟩ := ih (by omega)
        obtain ⟨b, u, f1, f2, f3⟩ := hprs m (by omega)
        refine ⟨ws ++ [(u, prs[m].2)], by simp [e1], fun j k v e => ?_⟩
        by_cases hj : j < m
        · rw [List.getElem?_append_left (by omega)] at e
          exact e2 j k v e
        · have hj2 : j = m := by
            have := (List.getElem?_eq_some_iff.mp e).1
            rw [List.length_append, List.length_singleton] at this
            omega
          subst hj2
          rw [List.getElem?_append_right (by omega), e1, Nat.sub_self] at e
          cases e
          exact ⟨b, prs[j].1, f1, f2, List.getElem?_eq_getElem (by omega), f3⟩
    exact gen prs.length (Nat.le_refl _)
  obtain ⟨ws, w1, w2⟩ := cho
  have wl : ws.length = ps.length := w1.trans hl
  refine PySem.call_dict_pairs (knd := mixKind X.prog X.w) (kvs := prs) (PairArg.tuple a (ps.map Value.ref).toArray (fun j => ps.getD j 0) ws) (I.ok.hd hcalm) ⟨⟨o', n, ho', hc, hod, hd⟩, by simp [wl], fun j k v e => ?_⟩ ⟨w1.symm, fun j k v e => ?_⟩ (by rw [wl]; exact hz) fun h' tk hd' k => ?_
  · obtain ⟨b, kk, f1, f2, f3, f4⟩ := w2 j k v e
    refine ⟨by simp [f1, List.getD_eq_getElem?_getD], ?_⟩
    show PairAt s.heap (ps.getD j 0) k v
    rw [show ps.getD j 0 = b by simp [List.getD_eq_getElem?_getD, f1]]
    exact .inl (by obtain ⟨z, z1, z2, z3⟩ := f2; exact ⟨z, z1, z2, z3⟩)
  · obtain ⟨b, kk, f1, f2, f3, f4⟩ := w2 j k v e
    exact ⟨kk, f3, f4⟩
  · have hm : (s.heap.objs.size == sysModules) = false := beq_eq_false_iff_ne.mpr (Nat.ne_of_gt I.big)
    have hlen : (mergeK [] kvs).length ≤ sizeLine := by
      refine Nat.le_trans (length_mergeK kvs []) ?_
      rw [List.length_nil, Nat.zero_add, rel.length, hl]
      exact hz
    have ob : ObjOk X.prog X.w (upd H s.heap.objs.size (.dK (mergeK [] kvs))) h' s.heap.objs.size (.dK (mergeK [] kvs)) := ⟨hlen, hm, merged [] prs, KV.merge rel .nil, hd'⟩
    exact ⟨.ref s.heap.objs.size, _, I.laid (t' := tk) (fun b o e => k b o (by simp) e) (Nat.le_refl _) ob, rfl, q _ (I.hok.fresh (Nat.le_refl _))⟩
end
end NQ
namespace NQ
open PySem PySem.Spec PyProof.Rows L2 Evl
/-! ### promises of defs that only make new things -/
/-- the def returns a value with Post, where Pre holds; all that is tracked stays -/
def spR (Pre : List V → Hp → Prop) (Post : List V → V → Hp → Prop) : Sp := fun vs H Q _ => Pre vs H ∧ ∀ v H', Ex H H' → Post vs v H' → Q v H'
/-- a tuple of xs, new or not -/
def EvW (te : TE) (σ : L2.St) (H : Hp) (xs : List V) : Prop := ∀ H1, Ex H H1 → ∀ Q : VK, (∀ p H2, Ex H1 H2 → H2 p = some (.tup xs) → Q (.ref p) H2) → te σ H1 Q
/-- a tuple of xs that may be read -/
def EvQ (K : PySem.W.Frag) (te : TE) (σ : L2.St) (H : Hp) (xs : List V) : Prop := ∀ H1, Ex H H1 → ∀ Q : VK, (∀ p H2, Ex H1 H2 → SqT K H2 p xs → Q (.ref p) H2) → te σ H1 Q
/-- a new dict -/
def EvD (te : TE) (σ : L2.St) (H : Hp) (kvs : List (Key × V)) : Prop := ∀ H1, Ex H H1 → ∀ Q : VK, (∀ p H2, H1 p = none → Ex H1 H2 → H2 p = some (.dK kvs) → Q (.ref p) H2) → te σ H1 Q
/-- a value with P -/
def Gv (te : TE) (σ : L2.St) (H : Hp) (P : V → Hp → Prop) : Prop := ∀ H1, Ex H H1 → ∀ Q : VK, (∀ v H2, Ex H1 H2 → P v H2 → Q v H2) → te σ H1 Q
section
variable {K : PySem.W.Frag} {σ : L2.St} {H H' : Hp} {ta tb te tx : TE} {t u : TT} {x y z v : V} {r : R2} {tr : TA}
theorem EvW.mono {xs : List V} (e : Ex H H') (h : EvW te σ H xs) : EvW te σ H' xs := fun H1 a Q q => h H1 (e.trans a) Q q
theorem EvU.mono {xs : List V} (e : Ex H H') (h : EvU te σ H xs) : EvU te σ H' xs := fun H1 a Q q => h H1 (e.trans a) Q q
theorem Gv.mono {P : V → Hp → Prop} (e : Ex H H') (h : Gv te σ H P) : Gv te σ H' P := fun H1 a Q q => h H1 (e.trans a) Q q
theorem ew_of {xs : List V} (h : EvU te σ H xs) : EvW te σ H xs := fun H1 e Q q => h H1 e Q fun p H2 _ e2 hp => q p H2 e2 hp
theorem ew_ev {xs : List V} {p : Addr} (h : Ev te σ H (.ref p)) (hp : H p = some (.tup xs)) : EvW te σ H xs := fun H1 e Q q => h H1 e Q fun H2 e2 => q p H2 e2 ((e.trans e2) _ _ hp)
theorem eq_w {xs : List V} (h : EvW te σ H xs) : EvQ K te σ H xs := fun H1 e Q q => h H1 e Q fun p H2 e2 hp => q p H2 e2 (st_of hp)
theorem eq_ev {xs : List V} {p : Addr} (h : Ev te σ H (.ref p)) (hp : SqT K H p xs) : EvQ K te σ H xs := fun H1 e Q q => h H1 e Q fun H2 e2 => q p H2 e2 (ex_t (e.trans e2) hp)
theorem gv_ev (h : Ev te σ H v) : Gv te σ H (fun w _ => w = v) := fun H1 e Q q => h H1 e Q fun H2 e2 => q v H2 e2 rfl
theorem gv_L {xs : List V} (h : EvL te σ H xs) : Gv te σ H (fun w H2 => ∃ p, w = .ref p ∧ H2 p = some (.lst xs)) := fun H1 e Q q => h H1 e Q fun p H2 _ e2 hp => q _ H2 e2 ⟨p, rfl, hp⟩
theorem gv_W {xs : List V} (h : EvW te σ H xs) : Gv te σ H (fun w H2 => ∃ p, w = .ref p ∧ H2 p = some (.tup xs)) := fun H1 e Q q => h H1 e Q fun p H2 e2 hp => q _ H2 e2 ⟨p, rfl, hp⟩
theorem ev_gv (h : Gv te σ H (fun w _ => w = v)) : Ev te σ H v := fun H1 e Q q => h H1 e Q fun w H2 e2 hw => by
  subst hw
  exact q H2 e2
theorem ew_gv {xs : List V} (h : Gv te σ H (fun w H2 => ∃ p, w = .ref p ∧ H2 p = some (.tup xs))) : EvW te σ H xs := fun H1 e Q q => h H1 e Q fun w H2 e2 hw => by
  obtain ⟨p, rfl, hp⟩ := hw
  exact q p H2 e2 hp
theorem Gv.imp {P P' : V → Hp → Prop} (h : Gv te σ H P) (i : ∀ v H1, Ex H H1 → P v H1 → P' v H1) : Gv te σ H P' := fun H1 e Q q => h H1 e Q fun v H2 e2 hv => q v H2 e2 (i v H2 (e.trans e2) hv)
/-- f(..), told by spR -/
theorem gv_call {Pre : List V → Hp → Prop} {Post : List V → V → Hp → Prop} {vs : List V} {E : XK} (h : EvA tr σ H vs) (hp : ∀ H1, Ex H H1 → Pre vs H1) : Gv (tCall (spR Pre Post) [] E tr) σ H (Post vs) := fun H1 e Q q => by
  refine h H1 e _ fun H2 e2 => ?_
  rw [List.append_nil]
  exact ⟨hp H2 (e.trans e2), fun v H' e3 hv => q v H' (e2.trans e3) hv⟩
/-- one argument that is made on the way -/
theorem gv_call1 {Pre : List V → Hp → Prop} {Post : List V → V → Hp → Prop} {P P' : V → Hp → Prop} {E : XK} (h : Gv te σ H P) (hp : ∀ v H1, Ex H H1 → P v H1 → Pre [v] H1 ∧ ∀ w H2, Ex H1 H2 → Post [v] w H2 → P' w H2) :
    Gv (tCall (spR Pre Post) [] E (tCons te tNil)) σ H P' := fun H1 e Q q => by
  refine h H1 e _ fun v H2 e2 hv => ?_
  obtain ⟨a, b⟩ := hp v H2 (e.trans e2) hv
  exact ⟨a, fun w H3 e3 hw => q w H3 (e2.trans e3) (b w H3 e3 hw)⟩
/-! ### the rules with the written part named -/
theorem ixT {X : Cx} {K : PySem.W.Frag} (e : X.K = K) : IxR X (rIxT K) := by
  subst e
  exact ix_tup
theorem ixL {X : Cx} {K : PySem.W.Frag} (e : X.K = K) : IxR X (rIxL K) := by
  subst e
  exact ix_list
theorem crIsi {X : Cx} {K : PySem.W.Frag} (e : X.K = K) : CallR X (.builtin "isinstance") (rIsi K) := by
  subst e
  exact call_isi
theorem crLen {X : Cx} {K : PySem.W.Frag} (e : X.K = K) : CallR X (.builtin "len") (rLenS K) := by
  subst e
  exact call_len_seq
theorem crAll {X : Cx} {K : PySem.W.Frag} (e : X.K = K) (hc : X.calm = true) : CallR X (.builtin "all") (rAll K) := by
  subst e
  exact cr_all hc
def rTupS (K : PySem.W.Frag) : List V → Hp → VK → Prop := fun xs H Q => ∃ p ys, xs = [.ref p] ∧ ((SqL K H p ys ∧ ∀ l, H l = none → Q (.ref l) (upd H l (.tup ys))) ∨ (SqT K H p ys ∧ Q (.ref p) H))
theorem crTup {X : Cx} {K : PySem.W.Frag} (e : X.K = K) : CallR X (.type "tuple") (rTupS K) := by
  subst e
  exact call_tuple_of
def rTupF (K : PySem.W.Frag) : List V → Hp → VK → Prop := fun xs H Q => ∃ p ys, xs = [.ref p] ∧ SqL K H p ys ∧ ∀ l o, H l = none → o.dict = none → Q (.ref l) (upd H l (.frz o (.tup ys)))
theorem crTupF {X : Cx} {K : PySem.W.Frag} (e : X.K = K) : CallR X (.type "tuple") (rTupF K) := by
  subst e
  exact call_tupF
def rDictT (K : PySem.W.Frag) : List V → Hp → VK → Prop := fun xs H Q => ∃ (a : Addr) (o : Obj) (ps : List Addr) (kvs : List (Key × V)), xs = [.ref a] ∧ H a = some (.frz o (.tup (ps.map V.ref))) ∧ o.dict = none ∧
    Paired (fun p kv => SqT K H p [kV kv.1, kv.2]) ps kvs ∧ ∀ p, H p = none → Q (.ref p) (upd H p (.dK (mergeK [] kvs)))
theorem crDictT {X : Cx} {K : PySem.W.Frag} (e : X.K = K) (hc : X.calm = true) : CallR X (.type "dict") (rDictT K) := by
  subst e
  exact call_dictT hc
def rDictL (K : PySem.W.Frag) : List V → Hp → VK → Prop := fun xs H Q => ∃ (a : Addr) (ps : List Addr) (kvs : List (Key × V)), xs = [.ref a] ∧ SqL K H a (ps.map V.ref) ∧
    Paired (fun p kv => SqT K H p [kV kv.1, kv.2]) ps kvs ∧ ∀ p, H p = none → Q (.ref p) (upd H p (.dK (mergeK [] kvs)))
theorem crDictL {X : Cx} {K : PySem.W.Frag} (e : X.K = K) (hc : X.calm = true) : CallR X (.type "dict") (rDictL K) := by
  subst e
  exact call_dictP hc
theorem opInS {X : Cx} {K : PySem.W.Frag} (e : X.K = K) : OpR X (compareOp .In) (rIn K false) := by
  subst e
  exact op_in_seq
theorem opNotInS {X : Cx} {K : PySem.W.Frag} (e : X.K = K) : OpR X (compareOp .NotIn) (rIn K true) := by
  subst e
  exact op_notIn_seq
theorem piTup {X : Cx} {K : PySem.W.Frag} {tg l : Expr} {tl : TE} (e : X.K = K) (h : PE X l tl) : PI X tg l (iTup K tl) := by
  subst e
  exact pi_tup h
theorem piLst {X : Cx} {K : PySem.W.Frag} {tg l : Expr} {tl : TE} (e : X.K = K) (h : PE X l tl) : PI X tg l (iList K tl) := by
  subst e
  exact pi_list h
theorem slT {X : Cx} {K : PySem.W.Frag} (e : X.K = K) : SlR X (rSlT K) := by
  subst e
  exact sl_tup
theorem slL {X : Cx} {K : PySem.W.Frag} (e : X.K = K) : SlR X (rSlL K) := by
  subst e
  exact sl_list
/-! ### tests and built-ins -/
theorem ev_callB {Pre : List V → Hp → Prop} {vs : List V} {E : XK} (h : EvA tr σ H vs) (hp : ∀ H1, Ex H H1 → Pre vs H1) : Ev (tCall (spR Pre fun _ v _ => v = .bl true) [] E tr) σ H (.bl true) := ev_gv (gv_call h hp)
theorem ev_callN {Pre : List V → Hp → Prop} {vs : List V} {E : XK} (h : EvA tr σ H vs) (hp : ∀ H1, Ex H H1 → Pre vs H1) : Ev (tCall (spR Pre fun _ v _ => v = .non) [] E tr) σ H .non := ev_gv (gv_call h hp)
theorem ev_isi {w : V} {tt uu : Value} {b : Bool} (ha : Ev ta σ H x) (hb : Ev tb σ H w) (k : ClsV w uu) (ty : ∀ H1, Ex H H1 → TyX K H1 x tt) (e : PySem.W.kitOne K tt uu = some b) :
    Ev (tCB (rIsi K) (tCons ta (tCons tb tNil))) σ H (.bl b) := fun H1 a Q q => by
  refine ha H1 a _ fun H2 e2 => ?_
  refine hb H2 (a.trans e2) _ fun H3 e3 => ?_
  exact ⟨x, w, tt, uu, b, rfl, k, ty H3 ((a.trans e2).trans e3), e, q H3 (e2.trans e3)⟩
theorem ev_lenS {w : Str} (ha : Ev ta σ H (.str w)) (hl : w.length ≤ 100000) : Ev (tCB (fun xs H Q => ∃ z : Str, xs = [.str z] ∧ z.length ≤ sizeLine ∧ Q (.int z.length) H) (tCons ta tNil)) σ H (.int (w.length : Int)) := fun H1 e Q q => by
  refine ha H1 e _ fun H2 e2 => ?_
  exact ⟨w, rfl, sz_of hl, q H2 e2⟩
theorem ev_lenT {p : Addr} {xs : List V} (ha : Ev ta σ H (.ref p)) (h : SqT K H p xs) : Ev (tCB (rLenS K) (tCons ta tNil)) σ H (.int (xs.length : Int)) := fun H1 e Q q => by
  refine ha H1 e _ fun H2 e2 => ?_
  exact ⟨p, xs, rfl, Or.inr (ex_t (e.trans e2) h), q H2 e2⟩
theorem ev_all {n : Nat} {bs : List Bool} {xs : List V} (ha : EvL ta σ H xs) (hx : xs = bs.map V.bl) (hb : bs.all id = true) : Ev (tCB (rAll K) (tCons ta tNil)) σ H (.bl true) := fun H1 e Q q => by
  refine ha H1 e _ fun p H2 _ e2 hp => ?_
  refine ⟨p, bs, rfl, sq_of (by rw [← hx]; exact hp), ?_⟩
  rw [hb]
  exact q H2 e2
theorem eu_tupOf {xs : List V} (ha : EvL ta σ H xs) : EvU (tCB (rTupS K) (tCons ta tNil)) σ H xs := fun H1 e Q q => by
  refine ha H1 e _ fun p H2 hp0 e2 hp => ?_
  exact ⟨p, xs, rfl, Or.inl ⟨sq_of hp, fun l hl => q l _ (fresh_back e2 hl) (e2.trans (Ex.new hl)) upd_same⟩⟩
theorem ev_add {i j : Int} (ha : Ev ta σ H (.int i)) (hb : Ev tb σ H (.int j)) : Ev (tOp (rI0 fun i j => .int (i + j)) ta tb) σ H (.int (i + j)) := ev_op ha hb rv_I0
theorem ev_sub {i j : Int} (ha : Ev ta σ H (.int i)) (hb : Ev tb σ H (.int j)) : Ev (tOp (rI0 fun i j => .int (i - j)) ta tb) σ H (.int (i - j)) := ev_op ha hb rv_I0
theorem ev_ltV {i j : Int} (ha : Ev ta σ H (.int i)) (hb : Ev tb σ H (.int j)) : Ev (tOp (rI0 fun i j => .bl (decide (i < j))) ta tb) σ H (.bl (decide (i < j))) := ev_op ha hb rv_I0
theorem ev_leV {i j : Int} (ha : Ev ta σ H (.int i)) (hb : Ev tb σ H (.int j)) : Ev (tOp (rI0 fun i j => .bl (decide (i ≤ j))) ta tb) σ H (.bl (decide (i ≤ j))) := ev_op ha hb rv_I0
theorem ev_gtV {i j : Int} (ha : Ev ta σ H (.int i)) (hb : Ev tb σ H (.int j)) : Ev (tOp (rI0 fun i j => .bl (decide (j < i))) ta tb) σ H (.bl (decide (j < i))) := ev_op ha hb rv_I0
theorem ev_geV {i j : Int} (ha : Ev ta σ H (.int i)) (hb : Ev tb σ H (.int j)) : Ev (tOp (rI0 fun i j => .bl (decide (j ≤ i))) ta tb) σ H (.bl (decide (j ≤ i))) := ev_op ha hb rv_I0
theorem ev_ltI {i j : Int} : RV rLtA (.int i) (.int j) H (.bl (decide (i < j))) := fun H1 _ _ q => Or.inl ⟨i, j, rfl, rfl, q H1 (Ex.refl H1)⟩
theorem ev_ltS {i j : Str} : RV rLtA (.str i) (.str j) H (.bl (decide (i.cps.toList < j.cps.toList))) := fun H1 _ _ q => Or.inr ⟨i, j, rfl, rfl, q H1 (Ex.refl H1)⟩
def rInC : R2 := fun x y H Q => ∃ (c : Nat) (z : Str), x = .str ⟨#[c]⟩ ∧ y = .str z ∧ Q (.bl (decide (c ∈ z.cps.toList))) H
theorem rv_inC {c : Nat} {w : Str} : RV rInC (.str ⟨#[c]⟩) (.str w) H (.bl (decide (c ∈ w.cps.toList))) := fun H1 _ _ q => ⟨c, w, rfl, rfl, q H1 (Ex.refl H1)⟩
/-! ### comprehensions over tuples, texts, ranges -/
theorem el_lcT {xs : List V} {tl : TE} {j : Nat} {vs : List Nat} (f : Nat → Bool) (v : Nat → V) (h : EvQ K tl σ H xs) (hz : xs.length ≤ 40000) (hw : ∀ x, wipe ((wipe σ vs).set j (some x)) vs = wipe σ vs)
    (ht : ∀ (i : Nat) (x : V) H1, Ex H H1 → xs[i]? = some x → EvT t ((wipe σ vs).set j (some x)) H1 (f i)) (he : ∀ (i : Nat) (x : V) H1, Ex H H1 → xs[i]? = some x → f i = true → Ev te ((wipe σ vs).set j (some x)) H1 (v i)) :
    EvL (tLc (iTup K tl) (gName j) t te vs) σ H (given xs.length f v) := fun H0 e Q q => by
  refine h H0 e _ fun a H1 e1 hx' => ?_
  refine ⟨a, rfl, ⟨xs, hx'⟩, fun Dl hD => ?_⟩
  refine lc_tup (xs := xs) (Cw H1 f v Dl) ⟨hD, Ex.new hD, upd_same⟩ (fun i H' _ p => ex_t p.2.1 hx') (fun i x H' hi p => ?_) fun H' p => q Dl H' (fresh_back e1 p.1) (e1.trans p.2.1) p.2.2
  exact ⟨hw x, cw_turn p (by have := (List.getElem?_eq_some_iff.mp hi).1; omega) (ht i x H1 (e.trans e1) hi) fun hf => he i x H1 (e.trans e1) hi hf⟩
theorem el_lcS {z : Str} {tl : TE} {j : Nat} {vs : List Nat} (f : Nat → Bool) (v : Nat → V) (h : Ev tl σ H (.str z)) (hz : z.cps.size ≤ 40000) (hw : ∀ x, wipe ((wipe σ vs).set j (some x)) vs = wipe σ vs)
    (ht : ∀ (i : Nat) (c : Nat) H1, Ex H H1 → z.cps[i]? = some c → EvT t ((wipe σ vs).set j (some (.str ⟨#[c]⟩))) H1 (f i)) (he : ∀ (i : Nat) (c : Nat) H1, Ex H H1 → z.cps[i]? = some c → f i = true → Ev te ((wipe σ vs).set j (some (.str ⟨#[c]⟩))) H1 (v i)) :
    EvL (tLc (iStr tl) (gName j) t te vs) σ H (given z.cps.size f v) := fun H0 e Q q => by
  refine h H0 e _ fun H1 e1 => ?_
  refine ⟨z, rfl, fun Dl hD => ?_⟩
  refine ⟨fun i m H' => m = z.cps.size - i ∧ i ≤ z.cps.size ∧ Cw H1 f v Dl i H', ⟨z.cps.size, by simp, Nat.zero_le _, hD, Ex.new hD, upd_same⟩, ?_⟩
  rintro i m H' ⟨rfl, hi, p⟩
  by_cases hlt : i < z.cps.size
  · refine Or.inr ⟨hlt, Cw H1 f v Dl (i + 1), fun H2 p' => ⟨z.cps.size - (i + 1), by omega, rfl, hlt, p'⟩, fun x H2 y => ?_⟩
    obtain ⟨rfl, c, hc, rfl⟩ := y
    exact ⟨hw _, cw_turn p (by omega) (ht i c H1 (e.trans e1) hc) fun hf => he i c H1 (e.trans e1) hc hf⟩
  · have ei : i = z.cps.size := by omega
    subst ei
    exact Or.inl ⟨Nat.le_refl _, q Dl H' (fresh_back e1 p.1) (e1.trans p.2.1) p.2.2⟩
theorem et_yes : EvT tYes σ H true := fun H1 _ _ q => q H1 (Ex.refl H1)
/-! ### given, as lists -/
theorem given_all (n : Nat) (v : Nat → V) : given n (fun _ => true) v = (List.range n).map v := by
  unfold given
  congr 1
  exact List.filter_eq_self.mpr fun _ _ => rfl
theorem map_range_getD {α β : Type} (d : α) (g : α → β) : ∀ xs : List α, (List.range xs.length).map (fun i => g (xs.getD i d)) = xs.map g
  | [] => rfl
  | x :: r => by
    rw [List.length_cons, List.range_succ_eq_map, List.map_cons, List.map_map]
    show g x :: _ = g x :: _
    congr 1
    have ih := map_range_getD d g r
    rw [← ih]
    rfl
theorem given_map {α : Type} (d : α) (g : α → V) (xs : List α) : given xs.length (fun _ => true) (fun i => g (xs.getD i d)) = xs.map g := by
  rw [given_all, map_range_getD]
theorem given_filter {α : Type} (d : α) (p : α → Bool) (g : α → V) : ∀ xs : List α, given xs.length (fun i => p (xs.getD i d)) (fun i => g (xs.getD i d)) = (xs.filter p).map g := by
  intro xs
  unfold given
  have h : ((List.range xs.length).filter fun i => p (xs.getD i d)).map (fun i => xs.getD i d) = xs.filter p := by
    rw [show (fun i => p (xs.getD i d)) = p ∘ (fun i => xs.getD i d) from rfl, ← List.filter_map, map_range_getD d (fun x => x) xs, List.map_id']
  rw [← h, List.map_map]
  rfl
theorem given_true {n : Nat} {bs : List Bool} (h : bs = List.replicate n true) : given n (fun _ => true) (fun _ => V.bl true) = bs.map V.bl := by
  rw [given_all, h, List.map_replicate]
  exact List.map_const' .. |>.trans (by rw [List.length_range])
/-- all of a comprehension whose elements are all true -/
theorem ev_allT {n : Nat} (ha : EvL ta σ H (given n (fun _ => true) (fun _ => V.bl true))) : Ev (tCB (rAll K) (tCons ta tNil)) σ H (.bl true) :=
  ev_all (n := n) (bs := List.replicate n true) ha (given_true rfl) (by simp)
/-! ### statements with Gv -/
variable {D : Ends} {tz : TS}
theorem q_asgG {i : Nat} {P : V → Hp → Prop} (h : Gv te σ H P) (k : ∀ v H1, Ex H H1 → P v H1 → tz D (σ.set i (some v)) H1) : tSeq (tAsg te (gName i)) tz D σ H := h H (Ex.refl H) _ fun v H1 e hv => k v H1 e hv
theorem q_asgD {i : Nat} {kvs : List (Key × V)} (h : EvD te σ H kvs) (k : ∀ p H1, H p = none → Ex H H1 → H1 p = some (.dK kvs) → tz D (σ.set i (some (.ref p))) H1) : tSeq (tAsg te (gName i)) tz D σ H := h H (Ex.refl H) _ fun p H1 hn e hp => k p H1 hn e hp
theorem s_retG {P : V → Hp → Prop} (h : Gv te σ H P) (k : ∀ v H1, Ex H H1 → P v H1 → D.rt v H1) : tRet te D σ H := h H (Ex.refl H) _ fun v H1 e hv => k v H1 e hv
theorem q_dropG {P : V → Hp → Prop} (h : Gv te σ H P) (k : ∀ v H1, Ex H H1 → P v H1 → tz D σ H1) : tSeq (tDrop te) tz D σ H := h H (Ex.refl H) _ fun v H1 e hv => k v H1 e hv
/-- a for over a tuple that stands: Pv by the turn; the body leaves all that is tracked -/
theorem q_forQ {xs : List V} {g : TG} {tb : TS} (h : EvQ K te σ H xs) (Pv : Nat → L2.St → Hp → Prop) (h0 : ∀ H1, Ex H H1 → Pv 0 σ H1)
    (hs : ∀ (i : Nat) (x : V) (σ' : L2.St) (H1 H' : Hp) (N : L2.St → Hp → Prop), Ex H H1 → xs[i]? = some x → Ex H1 H' → Pv i σ' H' → (∀ σ3 H3, Ex H' H3 → Pv (i + 1) σ3 H3 → N σ3 H3) → g x σ' H' fun σ2 H2 => tb { D with nx := N, ct := N, bk := tz D } σ2 H2)
    (hd : ∀ σ' H', Ex H H' → Pv xs.length σ' H' → tz D σ' H') : tSeq (tFor (iTup K te) g tb) tz D σ H := by
  refine h H (Ex.refl H) _ fun a H1 e1 hx => ?_
  refine ⟨a, rfl, ⟨xs, hx⟩, ?_⟩
  refine for_tup (xs := xs) (D := { D with nx := tz D }) (fun i σ' H' => Ex H1 H' ∧ Pv i σ' H') ⟨Ex.refl H1, h0 H1 e1⟩ (fun i σ' H' _ p => ex_t p.1 hx) (fun i x σ' H' hi p => ?_) fun σ' H' p => hd σ' H' (e1.trans p.1) p.2
  exact hs i x σ' H1 H' (fun σ3 H3 => Ex H1 H3 ∧ Pv (i + 1) σ3 H3) e1 hi p.1 p.2 fun σ3 H3 e3 p3 => ⟨p.1.trans e3, p3⟩
/-! ### more statements -/
theorem q_par {i j : Nat} {v w : V} {ta : TA} (h : EvA ta σ H [v, w]) (k : ∀ H1, Ex H H1 → tz D ((σ.set i (some v)).set j (some w)) H1) : tSeq (tPar i j ta) tz D σ H := h H (Ex.refl H) _ fun H1 e => ⟨v, w, rfl, k H1 e⟩
theorem s_par {i j : Nat} {v w : V} {ta : TA} (h : EvA ta σ H [v, w]) (k : ∀ H1, Ex H H1 → D.nx ((σ.set i (some v)).set j (some w)) H1) : tPar i j ta D σ H := h H (Ex.refl H) _ fun H1 e => ⟨v, w, rfl, k H1 e⟩
theorem q_dput {td ty tv : TE} {a : Addr} {k : Key} {v : V} (hv : Ev tv σ H v) (hd : Ev td σ H (.ref a)) (hk : Ev ty σ H (kV k)) (kk : ∀ H1, Ex H H1 → ∃ kvs, H1 a = some (.dK kvs) ∧ kvs.length < sizeLine ∧ tz D σ (upd H1 a (.dK (putK kvs k v)))) :
    tSeq (sDPut td ty tv) tz D σ H := by
  refine hv H (Ex.refl H) _ fun H1 e1 => ?_
  refine hd H1 e1 _ fun H2 e2 => ?_
  refine hk H2 (e1.trans e2) _ fun H3 e3 => ?_
  obtain ⟨kvs, h1, h2, h3⟩ := kk H3 ((e1.trans e2).trans e3)
  exact ⟨a, _, rfl, DPut.k h1 h2, h3⟩
/-- a list that may be read -/
def EvQL (K : PySem.W.Frag) (te : TE) (σ : L2.St) (H : Hp) (xs : List V) : Prop := ∀ H1, Ex H H1 → ∀ Q : VK, (∀ p H2, Ex H1 H2 → SqL K H2 p xs → Q (.ref p) H2) → te σ H1 Q
theorem eql_of {xs : List V} (h : EvL te σ H xs) : EvQL K te σ H xs := fun H1 e Q q => h H1 e Q fun p H2 _ e2 hp => q p H2 e2 (sq_of hp)
theorem eql_ev {xs : List V} {p : Addr} (h : Ev te σ H (.ref p)) (hp : SqL K H p xs) : EvQL K te σ H xs := fun H1 e Q q => h H1 e Q fun H2 e2 => q p H2 e2 (ex_l (e.trans e2) hp)
theorem q_forQL {xs : List V} {g : TG} {tb : TS} (h : EvQL K te σ H xs) (Pv : Nat → L2.St → Hp → Prop) (h0 : ∀ H1, Ex H H1 → Pv 0 σ H1)
    (hs : ∀ (i : Nat) (x : V) (σ' : L2.St) (H1 H' : Hp) (N : L2.St → Hp → Prop), Ex H H1 → xs[i]? = some x → Ex H1 H' → Pv i σ' H' → (∀ σ3 H3, Ex H' H3 → Pv (i + 1) σ3 H3 → N σ3 H3) → g x σ' H' fun σ2 H2 => tb { D with nx := N, ct := N, bk := tz D } σ2 H2)
    (hd : ∀ σ' H', Ex H H' → Pv xs.length σ' H' → tz D σ' H') : tSeq (tFor (iList K te) g tb) tz D σ H := by
  refine h H (Ex.refl H) _ fun a H1 e1 hx => ?_
  refine ⟨a, rfl, ⟨xs, hx⟩, ?_⟩
  refine for_list (xs := xs) (D := { D with nx := tz D }) (fun i σ' H' => Ex H1 H' ∧ Pv i σ' H') ⟨Ex.refl H1, h0 H1 e1⟩ (fun i σ' H' _ p => ex_l p.1 hx) (fun i x σ' H' hi p => ?_) fun σ' H' p => hd σ' H' (e1.trans p.1) p.2
  exact hs i x σ' H1 H' (fun σ3 H3 => Ex H1 H3 ∧ Pv (i + 1) σ3 H3) e1 hi p.1 p.2 fun σ3 H3 e3 p3 => ⟨p.1.trans e3, p3⟩
end
end NQ
/-! rules: d.update(e); a tuple times an int; sorted of tuples with a text ahead; == of dicts of ints -/
namespace NQ
open PySem PySem.Spec PyProof.Rows L2
section
variable {X : Cx}
/-! ### d.update(e) -/
def rDUpd : V → List V → Hp → VK → Prop := fun x xs H Q => ∃ d e ks ls, x = .ref d ∧ xs = [.ref e] ∧ d ≠ e ∧ H d = some (.dK ks) ∧ H e = some (.dK ls) ∧ ks.length + ls.length ≤ sizeLine ∧ Q .non (upd H d (.dK (mergeK ks ls)))
theorem mtd_update : MtR X "dict.update" rDUpd := by
  intro pins s σ H x vs v us Q I rx rv h
  obtain ⟨d, e, ks, ls, rfl, rfl, hne, hd, he, hz, q⟩ := h
  obtain rfl : v = Value.ref d := rx
  obtain ⟨u, rfl, ru⟩ := vals1 rv
  obtain rfl : u = Value.ref e := ru
  obtain ⟨zd, md, vd, rd, dd⟩ := dk_of I.hok hd
  obtain ⟨ze, me, ve, re, de⟩ := dk_of I.hok he
  refine call_meetsIn PySem.F.slot_dict_update dd.typeIs PySem.F.entry_dict_update (PySem.F.args_dict_update_2 _ _) (meets_dict_update (mixKind X.prog X.w) d e hne me) ⟨vd, ve, dd, de, by rw [← rd.length, ← re.length]; exact hz, fun h' hd' ho' hs => ?_⟩
  have hex : ∃ q, h'.get? d = some q := let ⟨q, _, _, hq, _⟩ := hd'; ⟨q, hq⟩
  have hl := length_mergeK ls ks
  refine ⟨.non, _, d_write (t' := s.toks) I (by rw [hd]; exact True.intro) hs hex (dk_new (by omega) md (KV.merge re rd) hd'), rfl, q⟩
/-! ### a tuple times an int -/
theorem tuple_mul1 (l : Addr) (items : Array Value) (n : Nat) (sl : Array (Option Value)) (dd : Option Addr) (u : Tok) :
    Meets (Builtin.«tuple.__mul__» ⟨[.ref l, .int 1 u], []⟩) (fun _ R s => s.heap.get? l = some { cls := .type "tuple", dict := dd, data := .seq items n, slots := sl } ∧ R (.ok (.ret (Value.ref l))) s) :=
  .of_wp fun prog w A R s h => by
    obtain ⟨hp, g, d, tk, os⟩ := s
    obtain ⟨hl, h⟩ := h
    have f1 := AutoSeq1.idx_int
    have c1 : (items.isEmpty || (1 : Int) == 1) = true := by simp
    wp_walk using PySem.AutoSeq1.wpAny_loadPart' hl
    repeat (first
      | (refine wpAny_ite_true (decide_eq_true (by rw [c1])) ?_; wp_walk using PySem.AutoSeq1.wpAny_loadPart' hl)
      | (refine wpAny_ite_false (decide_eq_false (by decide)) ?_; wp_walk using PySem.AutoSeq1.wpAny_loadPart' hl))
    exact ⟨_, rfl, h⟩
def rRepU (K : PySem.W.Frag) : R2 := fun x y H Q => rRepT K x y H Q ∨ ∃ l xs, x = .ref l ∧ y = .int 1 ∧ SqT K H l xs ∧ Q (.ref l) H
theorem op_repU : OpR X (binaryOp .Mult) (rRepU X.K) := by
  intro pins s σ H x y v u Q I rx ry h
  rcases h with h | ⟨l, xs, rfl, rfl, hT, q⟩
  · exact op_repT pins s σ H x y v u Q I rx ry h
  cases rx
  obtain ⟨t, rfl⟩ := ry
  obtain ⟨its, r, ⟨⟨cls, dd, data, sl⟩, ho, hc, n, hd⟩, hs⟩ := I.tuple hT
  simp only at hc hd
  subst hc hd
  exact wpAny_binaryOp_repeat_ref (T := "tuple") (U := "int") (by decide) ⟨_, ho, rfl⟩ (fun s' => typeIs_int s' 1 t) noFill_tuple_mul F.fills_int_mul F.slot_int_rmul repeat_tuple F.slot_int_index.lookup
    (call_meets F.slot_int_rmul (typeIs_int s 1 t) F.entry_int_rmul (F.args_int_rmul_2 _ _) (int_rmul_tuple 1 t l its.toArray n dd sl)
      ⟨ho, rfl, ⟨_, ho, rfl⟩, call_meets F.slot_tuple_mul ⟨_, ho, rfl⟩ F.entry_tuple_mul (F.args_tuple_mul_2 _ _) (tuple_mul1 l its.toArray n sl dd t) ⟨ho, ⟨.ref l, H, I, rfl, q⟩⟩⟩)
theorem opRepU {K : PySem.W.Frag} (e : X.K = K) : OpR X (binaryOp .Mult) (rRepU K) := by
  subst e
  exact op_repU
/-! ### == of dicts of ints -/
theorem hits_ints {A : Around} {s : Shared} {kvs : List (Key × V)} {vb : List (Key × Value)} (rb : KV kvs vb) {ks : List (Key × V)} {va : List (Key × Value)} (ra : KV ks va) :
    (∀ p ∈ ks, ∃ i j, p.2 = .int i ∧ valV kvs p.1 = some (.int j)) → PySem.W.KeqHits A s vb va (ks.all fun p => decide (valV kvs p.1 = some p.2)) := by
  unfold KV at ra
  induction ra with
  | nil => intro _; exact .nil
  | @cons p q ps qs h t ih =>
    intro hp
    obtain ⟨h1, h2⟩ := h
    obtain ⟨i, j, e, f⟩ := hp p List.mem_cons_self
    have rr : RelO (some (.int j)) (valueAt vb p.1) := by rw [← f]; exact rb.val p.1
    obtain ⟨y, hy, ry⟩ := rr.some_of
    obtain ⟨k, v⟩ := q
    have h1' : p.1 = k := h1
    rw [h1'] at hy
    obtain ⟨t2, rfl⟩ := ry
    have h2' : RelV p.2 v := h2
    rw [e] at h2'
    obtain ⟨t1, rfl⟩ := h2'
    have ee : decide (valV kvs p.1 = some p.2) = (i == j) := by
      rw [f, e]
      by_cases z : i = j
      · subst z
        simp
      · rw [decide_eq_false (fun w => z (V.int.inj (Option.some.inj w)).symm)]
        exact (beq_eq_false_iff_ne.mpr z).symm
    rw [List.all_cons, ee]
    exact .hit hy (SeqAt.EqAt.int_int i t1 j t2) (ih fun p' hp' => hp p' (List.mem_cons_of_mem _ hp'))
def rEqDI : R2 := fun x y H Q => ∃ a b ks ls, x = .ref a ∧ y = .ref b ∧ H a = some (.dK ks) ∧ H b = some (.dK ls) ∧ ks.length = ls.length ∧ (∀ p ∈ ks, ∃ i j, p.2 = .int i ∧ valV ls p.1 = some (.int j)) ∧ Q (.bl (ks.all fun p => decide (valV ls p.1 = some p.2))) H
theorem op_eq_dictI (hu : X.A.units < cLine) : OpR X (compareOp .Eq) rEqDI := by
  intro pins s σ H x y v u Q I rx ry h
  obtain ⟨a, b, ks, ls, rfl, rfl, ea, eb, hlen, hp, q⟩ := h
  obtain rfl : v = Value.ref a := rx
  obtain rfl : u = Value.ref b := ry
  obtain ⟨_, ya, va, ra, da⟩ := (show ObjOk X.prog X.w H s.heap a (.dK ks) from I.hok a _ ea)
  obtain ⟨_, yb, vb, rb, db⟩ := (show ObjOk X.prog X.w H s.heap b (.dK ls) from I.hok b _ eb)
  have hl : va.length = vb.length := by rw [← ra.length, ← rb.length]; exact hlen
  exact PySem.W.keq_eq (knd := mixKind X.prog X.w) ya yb da db hu (fun _ => hits_ints rb ra hp) (fin_bl I q (by simp [hl]))
/-! ### xs[i], by values -/
def rGetL (K : PySem.W.Frag) : V → V → Hp → VK → Prop := fun o i H Q => ∃ (p : Addr) (xs : List V) (j : Nat) (v : V), o = .ref p ∧ i = .int (j : Int) ∧ SqL K H p xs ∧ xs[j]? = some v ∧ Q v H
theorem get_list : PGet X (rGetL X.K) := by
  intro pins s σ H o i ov iv Q I ro ri h
  obtain ⟨p, xs, j, z, rfl, rfl, hq, he, q⟩ := h
  cases ro
  obtain ⟨t, rfl⟩ := ri
  obtain ⟨its, r, pl, hz⟩ := I.list hq
  obtain ⟨w, ew, rw'⟩ := r.get he
  have hl := r.length
  have hn := line63
  have hj : j < xs.length := (List.getElem?_eq_some_iff.mp he).1
  exact wpAny_getItem_list pl.isList (by omega) (by omega) (by simpa using ew) ⟨z, H, I, rw', q⟩
theorem getL {K : PySem.W.Frag} (e : X.K = K) : PGet X (rGetL K) := by
  subst e
  exact get_list
theorem crMin {K : PySem.W.Frag} (e : X.K = K) (hc : X.calm = true) : CallR X (.builtin "min") (rMin K) := by
  subst e
  exact cr_min hc
theorem mtIndex {K : PySem.W.Frag} (e : X.K = K) : MtR X "list.index" (rIndex K) := by
  subst e
  exact mt_index
theorem opEqD {K : PySem.W.Frag} (e : X.K = K) (hu : X.A.units + 64 < cLine) : OpR X (compareOp .Eq) (rEqD K) := by
  subst e
  exact op_eqD hu
theorem opNeD {K : PySem.W.Frag} (e : X.K = K) (hu : X.A.units + 64 < cLine) : OpR X (compareOp .NotEq) (rNeD K) := by
  subst e
  exact op_neD hu
theorem ixS {K : PySem.W.Frag} (e : X.K = K) : IxR X (rIx K) := by
  subst e
  exact ix_seq
def rListS' (K : PySem.W.Frag) : List V → Hp → VK → Prop := fun xs H Q => ∃ p ys, xs = [.ref p] ∧ (SqL K H p ys ∨ SqT K H p ys) ∧ ∀ l, H l = none → Q (.ref l) (upd H l (.lst ys))
theorem crList {K : PySem.W.Frag} (e : X.K = K) : CallR X (.type "list") (rListS' K) := by
  subst e
  exact call_list_of
theorem crSortS {K : PySem.W.Frag} (e : X.K = K) : CallR X (.builtin "sorted") (rSortedS K) := by
  subst e
  exact cr_sortedS
theorem piEnum {K : PySem.W.Frag} {e : Expr} {ta : TA} {p pos tpos : Pos} {elts : List Expr} {kk : Nat} (ek : X.K = K) (hg : Gl X "enumerate") (hm : X.mg "enumerate" = none) (ha : PA X [e] ta) (hs : starEach [e] X.env = [(false, eval e X.env)] := by rfl) :
    PI X (.Tuple elts kk tpos) (.Call (.Name "enumerate" p) [e] [] pos) (iEnumT K ta) := by
  subst ek
  exact pi_enumT hg hm ha hs
theorem piZipL {K : PySem.W.Frag} {e e2 : Expr} {ta : TA} {p pos tpos : Pos} {elts : List Expr} {kk : Nat} (ek : X.K = K) (hg : Gl X "zip") (hm : X.mg "zip" = none) (ha : PA X [e, e2] ta)
    (hs : starEach [e, e2] X.env = (false, eval e X.env) :: starEach [e2] X.env := by rfl) (hpl : (backTo pos (starEach [e2] X.env)).any (·.1) = false := by rfl) :
    PI X (.Tuple elts kk tpos) (.Call (.Name "zip" p) [e, e2] [] pos) (RZ.iZipA K ta) := by
  subst ek
  exact RZ.pi_zipA hg hm ha hs hpl
theorem piZipM {K : PySem.W.Frag} {e e2 : Expr} {ta : TA} {p pos tpos : Pos} {elts : List Expr} {kk : Nat} (ek : X.K = K) (hg : Gl X "zip") (hm : X.mg "zip" = none) (ha : PA X [e, e2] ta)
    (hs : starEach [e, e2] X.env = (false, eval e X.env) :: starEach [e2] X.env := by rfl) (hpl : (backTo pos (starEach [e2] X.env)).any (·.1) = false := by rfl) :
    PI X (.Tuple elts kk tpos) (.Call (.Name "zip" p) [e, e2] [] pos) (iZipM K ta) := by
  subst ek
  exact pi_zipM hg hm ha hs hpl
def rJoinS (K : PySem.W.Frag) : V → List V → Hp → VK → Prop := fun x xs H Q => ∃ a p, ∃ ys : List Str, x = .str a ∧ xs = [.ref p] ∧ (SqL K H p (ys.map V.str) ∨ SqT K H p (ys.map V.str)) ∧
      (ys.map (·.length)).sum + ys.length * a.length ≤ 16777216 ∧ Q (.str (Txt.join a ys)) H
theorem peJoin {K : PySem.W.Frag} {o e : Expr} {to te : TE} {apos pos : Pos} (ek : X.K = K) (ho : PE X o to) (he : PE X e te) (hs : starEach [e] X.env = [(false, eval e X.env)] := by rfl) (hbase : attributeBase o "join" X.env (eval o X.env) = eval o X.env := by rfl) (hline : (apos.endLine == pos.line) = true := by rfl) :
    PE X (.Call (.Attribute o "join" apos) [e] [] pos) (tM1 (rJoinS K) to te) := by
  subst ek
  exact pe_join ho he hs hbase hline
theorem pgTup {K : PySem.W.Frag} {es : List Expr} {k : Nat} {pos : Pos} {t : TGs} {n : Nat} (ek : X.K = K) (hc : X.calm = true) (h : PGs X es t)
    (hn : (assignEach es X.env).length = n := by rfl) (hst : (assignEach es X.env).findIdx? (·.1) = none := by rfl) : PG X (.Tuple es k pos) (gTup K n t) := by
  subst ek
  exact pg_tup hc h hn hst
theorem slA {K : PySem.W.Frag} (e : X.K = K) : SlR X (rSlA K) := by
  subst e
  exact sl_tupA
end
end NQ
/-! sorted of tuples with a text ahead, no text twice -/
namespace NQ
open PySem PySem.Spec PyProof.Rows L2
def IsNm (h : Heap) (v : Value) (x : Str) : Prop := ∃ a o t r n, v = .ref a ∧ h.get? a = some o ∧ o.cls = .type "tuple" ∧ o.data = .seq (Value.str x t :: r).toArray n
theorem IsNm.keeps {h h' : Heap} {v : Value} {x : Str} (p : IsNm h v x) (k : ∀ b o, h.get? b = some o → o.cls = .type "tuple" → h'.get? b = some o) : IsNm h' v x := by
  obtain ⟨a, o, t, r, n, e, ho, hc, hd⟩ := p
  exact ⟨a, o, t, r, n, e, k _ _ ho hc, hc, hd⟩
def lexS (x y : Str) : Bool := decide (x.cps.toList < y.cps.toList)
theorem lexS_no {x y : Str} : lexS x y = false ↔ ¬ x.cps.toList < y.cps.toList := by
  unfold lexS
  rw [decide_eq_false_iff_not]
theorem swo_str {α : Type} (k : α → Str) : SrtO.Swo fun v u => lexS (k v) (k u) := by
  refine ⟨fun x y h => ?_, fun x y z h1 h2 => ?_⟩
  · have a : (k x).cps.toList < (k y).cps.toList := of_decide_eq_true h
    exact lexS_no.mpr fun b => List.lt_irrefl _ (List.lt_trans a b)
  · have a := lexS_no.mp h1
    have b := lexS_no.mp h2
    refine lexS_no.mpr fun c => ?_
    rw [List.not_lt] at a b
    exact (List.not_lt.mpr (List.le_trans a b)) c
section
variable {prog : Program} {w : World} {A : Around} {E : Value → Shared → Prop} {s : Shared}
theorem kat_same {b fin : Bool} {Q : Bool → Shared → Prop} (h : Q fin s) : ∀ (l : List Value) (i : Nat), PySem.W.KatLex prog w A b fin Q (l.zip l) i s
  | [], _ => PySem.W.kat_nil h
  | v :: l, i => PySem.W.kat_cons (SeqAt.EqAt.same v prog w _ _ (PySem.W.kat_yes (kat_same h l (i + 1))))
theorem nm_cmp {vs : List Value} {k : Value → Str} (hp : ∀ v ∈ vs, IsNm s.heap v (k v)) (hi : ∀ v ∈ vs, ∀ u ∈ vs, k v = k u → v = u) : SrtO.Cmp prog w A s (tuples' true) (fun p => p.1 ∈ vs) (SrtO.lt2 fun v u => lexS (k v) (k u)) := by
  intro p q hm hm'
  have h1 := hp _ hm
  have h2 := hp _ hm'
  have hinj := hi _ hm _ hm'
  show wpAny (model prog w) A (keyLt' (tuples' true) p.1 q.1) (fun r s' => s' = s ∧ r = lexS (k p.1) (k q.1)) (fun _ _ => False) s
  unfold lexS
  generalize k p.1 = x at h1 hinj ⊢
  generalize k q.1 = x' at h2 hinj ⊢
  generalize p.1 = v at h1 hinj ⊢
  generalize q.1 = v' at h2 hinj ⊢
  obtain ⟨a, o, t, r, n, e, ho, hc, hd⟩ := h1
  obtain ⟨a', o', t', r', n', e', ho', hc', hd'⟩ := h2
  by_cases ex : x = x'
  · have ev := hinj ex
    subst ev
    rw [e] at e'
    cases e'
    rw [e]
    have eo := ho.symm.trans ho'
    cases eo
    refine PySem.W.kat_lt ho hd ho hd ?_
    refine kat_same ⟨rfl, ?_⟩ _ _
    rw [decide_eq_false (Nat.lt_irrefl _), ex, decide_eq_false (List.lt_irrefl _)]
  · rw [e, e']
    refine PySem.W.kat_lt ho hd ho' hd' ?_
    rw [show (Value.str x t :: r).toArray.toList = Value.str x t :: r from rfl, show (Value.str x' t' :: r').toArray.toList = Value.str x' t' :: r' from rfl, List.zip_cons_cons]
    refine PySem.W.kat_cons (SeqAt.EqAt.str_str x t x' t' prog w _ _ ?_)
    refine PySem.W.kat_go (fun e1 => absurd (by simpa using e1) ex) (fun _ => ?_)
    exact PySem.W.kat_no (oneLt_str ⟨rfl, rfl⟩)
theorem nm_firsts {h : Heap} {k : Value → Str} : ∀ {vs : List Value}, (∀ v ∈ vs, IsNm h v (k v)) → ∃ fs : List Value, PySem.W.KatTups h vs fs ∧ fs.length = vs.length ∧ ∀ f ∈ fs, ∃ x t, f = Value.str x t
  | [], _ => ⟨[], PySem.W.KatTups.nil, rfl, fun _ hm => by simp at hm⟩
  | v :: vs, hp => by
    obtain ⟨fs, h1, h2, h3⟩ := nm_firsts (vs := vs) fun v' hm => hp v' (List.mem_cons_of_mem _ hm)
    obtain ⟨a, o, t, r, n, e, ho, hc, hd⟩ := hp v (List.mem_cons_self ..)
    generalize k v = x at hd
    subst e
    refine ⟨.str x t :: fs, PySem.W.KatTups.cons ho hc hd rfl h1, by rw [List.length_cons, List.length_cons, h2], fun f hm => ?_⟩
    rcases List.mem_cons.mp hm with rfl | hm
    · exact ⟨x, t, rfl⟩
    · exact h3 f hm
theorem nm_sortable {a : Addr} {vs : List Value} {k : Value → Str} (h0 : 0 < vs.length) (hp : ∀ v ∈ vs, IsNm s.heap v (k v)) (hi : ∀ v ∈ vs, ∀ u ∈ vs, k v = k u → v = u) (ha : ∀ o, s.heap.get? a = some o → o.cls ≠ .type "tuple") : SrtO.SortableO prog w A s a vs fun v u => lexS (k v) (k u) := by
  intro h' keep
  have hp' : ∀ v ∈ vs, IsNm h' v (k v) := fun v hm => (hp v hm).keeps fun b o e c => keep b o (fun z => by subst z; exact ha o e c) e
  obtain ⟨fs, h1, h2, h3⟩ := nm_firsts hp'
  refine ⟨tuples' true, fun Q E hq => ?_, nm_cmp hp' hi⟩
  refine PySem.W.kat_kind (T := .type "str") h1 (by omega) (fun f hm => ?_) (by rfl) ?_
  · obtain ⟨x, t, rfl⟩ := h3 f hm
    exact PySem.W.Looks.now
  · have e : (Value.type "str" != Value.type "tuple") = true := by first | decide +kernel | rfl | decide
    rw [e]
    exact hq
theorem sorted_nm {l : Addr} {vs : List Value} {k : Value → Str} {Q : Value → Shared → Prop} (hl : s.heap.IsList l vs.toArray) (hz : vs.length ≤ sizeLine) (hp : ∀ v ∈ vs, IsNm s.heap v (k v)) (hi : ∀ v ∈ vs, ∀ u ∈ vs, k v = k u → v = u)
    (h : ∀ (h' : Heap) (d : Addr) (out : List Value), SrtO.Srtd (fun v u => lexS (k v) (k u)) out → SrtO.Stb (fun v u => lexS (k v) (k u)) out vs → (∀ b o, s.heap.get? b = some o → h'.get? b = some o) → s.heap.objs.size ≤ d → (∃ n, h'.get? d = some (seqObj "list" out.toArray n)) → Q (.ref d) { s with heap := h' }) :
    wpAny (model prog w) A (call (.builtin "sorted") [.ref l]) Q E s := by
  refine SrtO.sorted_ord (swo_str k) hl hz (fun h2 h₁ a ha kk => ?_) fun out hs hb => ?_
  · refine nm_sortable (s := { s with heap := h₁ }) (by omega) (fun v hm => (hp v hm).keeps fun b o e _ => (kk b o e).2) hi fun o e => ?_
    have e' : some o = some (seqObj "list" vs.toArray 0) := e.symm.trans ha
    cases e'
    intro c
    exact absurd (Value.type.inj c) (by decide)
  · exact h _ _ out hs hb (fun b o e => sortedAll_old e) (Nat.le_succ _) (sortedAll_at s.heap vs out.toArray)
end
/-- sorted(xs), xs a list of tuples with a text ahead (k says which), no text twice -/
def rSortedN (K : PySem.W.Frag) : List V → Hp → VK → Prop := fun vs H Q => ∃ (a : Addr) (xs : List V) (k : V → Str), vs = [V.ref a] ∧ SqL K H a xs ∧ (∀ x ∈ xs, ∃ t r, x = V.ref t ∧ H t = some (.tup (.str (k x) :: r))) ∧ (∀ x ∈ xs, ∀ y ∈ xs, k x = k y → x = y) ∧
  ∀ ys p, ys.Perm xs → ys.Pairwise (fun x y => ¬ (k y).cps.toList < (k x).cps.toList) → H p = none → Q (.ref p) (upd H p (.lst ys))
section
variable {X : Cx}
theorem cr_sortedN : CallR X (.builtin "sorted") (rSortedN X.K) := by
  intro pins s σ H vs us Q I r h
  obtain ⟨a, xs, k, rfl, hs, hx, hi, q⟩ := h
  obtain ⟨its, rv, hl, hz⟩ := I.list hs
  obtain ⟨u, rfl, ru⟩ := vals1 r
  obtain rfl : u = Value.ref a := ru
  obtain ⟨e1, e2⟩ := refs_back rv fun x m => by
    obtain ⟨t, r, e, _⟩ := hx x m
    exact ⟨t, e⟩
  refine sorted_nm (k := fun u => k (backV u)) hl.isList (by rw [← rv.length]; exact hz) (fun v hv => ?_) (fun v hv u hu hk => ?_) fun h' d out h1 h2 kp hd hn => ?_
  · obtain ⟨t, rfl⟩ := e2 v hv
    have hm : V.ref t ∈ xs := by rw [e1]; exact List.mem_map.mpr ⟨_, hv, rfl⟩
    obtain ⟨t', rr, e, ht⟩ := hx _ hm
    cases e
    obtain ⟨_, its2, r2, o, ho, hc, n, hd⟩ := I.hok _ _ ht
    cases r2 with
    | @cons _ u1 _ us2 q1 q2 =>
      obtain ⟨t1, rfl⟩ := q1
      exact ⟨t, o, t1, us2, n, rfl, ho, hc, hd⟩
  · obtain ⟨t, rfl⟩ := e2 v hv
    obtain ⟨t', rfl⟩ := e2 u hu
    have hm : V.ref t ∈ xs := by rw [e1]; exact List.mem_map.mpr ⟨_, hv, rfl⟩
    have hm' : V.ref t' ∈ xs := by rw [e1]; exact List.mem_map.mpr ⟨_, hu, rfl⟩
    have := hi _ hm _ hm' hk
    cases this
    rfl
  · have h3 : ∀ u ∈ out, ∃ a, u = Value.ref a := fun u hu => e2 u (h2.perm.mem_iff.mp hu)
    obtain ⟨n, hn⟩ := hn
    have hb : SrtO.Stb (fun x y => lexS (k x) (k y)) (out.map backV) xs := by
      rw [e1]
      exact SrtO.Stb.map (lt := fun x y => lexS (k x) (k y)) (swo_str k) backV h2
    refine ⟨.ref d, upd H d (.lst (out.map backV)), I.laid (t' := s.toks) kp hd ⟨?_, out, n, vals_back h3, hn⟩, rfl, q _ d hb.perm ?_ (I.hok.fresh hd)⟩
    · rw [hb.len]
      exact hz
    · exact List.Pairwise.imp (fun {x y} h => lexS_no.mp h) (SrtO.srtd_map (lt := fun x y => lexS (k x) (k y)) h1)
theorem crSortedN {K : PySem.W.Frag} (e : X.K = K) : CallR X (.builtin "sorted") (rSortedN K) := by
  subst e
  exact cr_sortedN
end
end NQ
namespace NQ
open PySem PySem.Spec PyProof.Rows L2
/-! ### the text -/
def topS (i : Nat) : Stmt := PySem.Challenge.pw_noringgains_k42_whole_queues_through_ano.main.body.getD i (.Pass ⟨0, 0, 0, 0⟩)
abbrev s_is_name : Stmt := topS 9
abbrev N_is_name : List Str := ["thing", "sign"]
theorem sc_is_name : FnScope N_is_name ["thing"] (defScope s_is_name) := ⟨rfl, rfl, rfl, by decide +kernel, rfl, by decide +kernel, by decide +kernel⟩
abbrev s_is_integer : Stmt := topS 14
abbrev N_is_integer : List Str := ["thing", "low", "high"]
theorem sc_is_integer : FnScope N_is_integer ["thing", "low", "high"] (defScope s_is_integer) := ⟨rfl, rfl, rfl, by decide +kernel, rfl, by decide +kernel, by decide +kernel⟩
abbrev s_are_payments : Stmt := topS 15
abbrev N_are_payments : List Str := ["thing", "house", "names", "pair"]
theorem sc_are_payments : FnScope N_are_payments ["thing", "house", "names"] (defScope s_are_payments) := ⟨rfl, rfl, rfl, by decide +kernel, rfl, by decide +kernel, by decide +kernel⟩
abbrev s_is_house_row : Stmt := topS 16
abbrev N_is_house_row : List Str := ["thing"]
theorem sc_is_house_row : FnScope N_is_house_row ["thing"] (defScope s_is_house_row) := ⟨rfl, rfl, rfl, by decide +kernel, rfl, by decide +kernel, by decide +kernel⟩
abbrev s_is_queues : Stmt := topS 17
abbrev N_is_queues : List Str := ["value", "houses", "part", "names", "one", "other"]
theorem sc_is_queues : FnScope N_is_queues ["value"] (defScope s_is_queues) := ⟨rfl, rfl, rfl, by decide +kernel, rfl, by decide +kernel, by decide +kernel⟩
abbrev s_check_queues : Stmt := topS 18
abbrev N_check_queues : List Str := ["queues"]
theorem sc_check_queues : FnScope N_check_queues ["queues"] (defScope s_check_queues) := ⟨rfl, rfl, rfl, by decide +kernel, rfl, by decide +kernel, by decide +kernel⟩
abbrev s_is_state_of : Stmt := topS 19
abbrev N_is_state_of : List Str := ["queues", "thing", "houses", "count", "part"]
theorem sc_is_state_of : FnScope N_is_state_of ["queues", "thing"] (defScope s_is_state_of) := ⟨rfl, rfl, rfl, by decide +kernel, rfl, by decide +kernel, by decide +kernel⟩
abbrev s_check_state : Stmt := topS 20
abbrev N_check_state : List Str := ["queues", "state"]
theorem sc_check_state : FnScope N_check_state ["queues", "state"] (defScope s_check_state) := ⟨rfl, rfl, rfl, by decide +kernel, rfl, by decide +kernel, by decide +kernel⟩
abbrev s_number_of : Stmt := topS 21
abbrev N_number_of : List Str := ["queues", "at", "part"]
theorem sc_number_of : FnScope N_number_of ["queues"] (defScope s_number_of) := ⟨rfl, rfl, rfl, by decide +kernel, rfl, by decide +kernel, by decide +kernel⟩
abbrev s_rich : Stmt := topS 22
abbrev N_rich : List Str := ["queues", "cash", "name", "own", "payments"]
theorem sc_rich : FnScope N_rich ["queues", "cash"] (defScope s_rich) := ⟨rfl, rfl, rfl, by decide +kernel, rfl, by decide +kernel, by decide +kernel⟩
abbrev s_pays_next : Stmt := topS 23
abbrev N_pays_next : List Str := ["queues", "numbers", "state", "balances", "at", "creditor", "amount"]
theorem sc_pays_next : FnScope N_pays_next ["queues", "numbers", "state", "balances", "at"] (defScope s_pays_next) := ⟨rfl, rfl, rfl, by decide +kernel, rfl, by decide +kernel, by decide +kernel⟩
abbrev s_balance_list : Stmt := topS 24
abbrev N_balance_list : List Str := ["queues", "state", "numbers", "found", "part", "at", "creditor", "amount"]
theorem sc_balance_list : FnScope N_balance_list ["queues", "state"] (defScope s_balance_list) := ⟨rfl, rfl, rfl, by decide +kernel, rfl, by decide +kernel, by decide +kernel⟩
abbrev s_paying : Stmt := topS 25
abbrev N_paying : List Str := ["queues", "state", "balances", "found", "at", "part"]
theorem sc_paying : FnScope N_paying ["queues", "state", "balances"] (defScope s_paying) := ⟨rfl, rfl, rfl, by decide +kernel, rfl, by decide +kernel, by decide +kernel⟩
abbrev s_end_of_all : Stmt := topS 26
abbrev N_end_of_all : List Str := ["queues", "part"]
theorem sc_end_of_all : FnScope N_end_of_all ["queues"] (defScope s_end_of_all) := ⟨rfl, rfl, rfl, by decide +kernel, rfl, by decide +kernel, by decide +kernel⟩
abbrev s_is_within : Stmt := topS 27
abbrev N_is_within : List Str := ["one", "other", "first", "second"]
theorem sc_is_within : FnScope N_is_within ["one", "other"] (defScope s_is_within) := ⟨rfl, rfl, rfl, by decide +kernel, rfl, by decide +kernel, by decide +kernel⟩
abbrev s_payers : Stmt := topS 28
abbrev N_payers : List Str := ["queues", "state"]
theorem sc_payers : FnScope N_payers ["queues", "state"] (defScope s_payers) := ⟨rfl, rfl, rfl, by decide +kernel, rfl, by decide +kernel, by decide +kernel⟩
abbrev s_run_walk : Stmt := topS 30
abbrev N_run_walk : List Str := ["queues", "numbers", "state", "balances", "names", "line", "at", "payments"]
theorem sc_run_walk : FnScope N_run_walk ["queues"] (defScope s_run_walk) := ⟨rfl, rfl, rfl, by decide +kernel, rfl, by decide +kernel, by decide +kernel⟩
abbrev s_walked_to : Stmt := topS 31
abbrev N_walked_to : List Str := ["queues", "thing", "numbers", "state", "balances", "name", "at", "payments"]
theorem sc_walked_to : FnScope N_walked_to ["queues", "thing"] (defScope s_walked_to) := ⟨rfl, rfl, rfl, by decide +kernel, rfl, by decide +kernel, by decide +kernel⟩
abbrev s_run_end : Stmt := topS 32
abbrev N_run_end : List Str := ["queues", "thing", "found"]
theorem sc_run_end : FnScope N_run_end ["queues", "thing"] (defScope s_run_end) := ⟨rfl, rfl, rfl, by decide +kernel, rfl, by decide +kernel, by decide +kernel⟩
abbrev s_final_state : Stmt := topS 33
abbrev N_final_state : List Str := ["queues"]
theorem sc_final_state : FnScope N_final_state ["queues"] (defScope s_final_state) := ⟨rfl, rfl, rfl, by decide +kernel, rfl, by decide +kernel, by decide +kernel⟩
abbrev s_run : Stmt := topS 34
abbrev N_run : List Str := ["queues"]
theorem sc_run : FnScope N_run ["queues"] (defScope s_run) := ⟨rfl, rfl, rfl, by decide +kernel, rfl, by decide +kernel, by decide +kernel⟩
abbrev s_is_run : Stmt := topS 35
abbrev N_is_run : List Str := ["queues", "value"]
theorem sc_is_run : FnScope N_is_run ["queues", "value"] (defScope s_is_run) := ⟨rfl, rfl, rfl, by decide +kernel, rfl, by decide +kernel, by decide +kernel⟩
abbrev s_takes_back : Stmt := topS 37
abbrev N_takes_back : List Str := ["queues", "numbers", "state", "balances", "at", "creditor", "amount"]
theorem sc_takes_back : FnScope N_takes_back ["queues", "numbers", "state", "balances", "at"] (defScope s_takes_back) := ⟨rfl, rfl, rfl, by decide +kernel, rfl, by decide +kernel, by decide +kernel⟩
abbrev s_retreat_walk : Stmt := topS 38
abbrev N_retreat_walk : List Str := ["queues", "numbers", "state", "balances", "names", "at"]
theorem sc_retreat_walk : FnScope N_retreat_walk ["queues"] (defScope s_retreat_walk) := ⟨rfl, rfl, rfl, by decide +kernel, rfl, by decide +kernel, by decide +kernel⟩
abbrev s_back_end : Stmt := topS 39
abbrev N_back_end : List Str := ["queues", "thing", "numbers", "state", "balances", "name"]
theorem sc_back_end : FnScope N_back_end ["queues", "thing"] (defScope s_back_end) := ⟨rfl, rfl, rfl, by decide +kernel, rfl, by decide +kernel, by decide +kernel⟩
abbrev s_greatest_feasible : Stmt := topS 40
abbrev N_greatest_feasible : List Str := ["queues"]
theorem sc_greatest_feasible : FnScope N_greatest_feasible ["queues"] (defScope s_greatest_feasible) := ⟨rfl, rfl, rfl, by decide +kernel, rfl, by decide +kernel, by decide +kernel⟩
abbrev s_retreat : Stmt := topS 41
abbrev N_retreat : List Str := ["queues"]
theorem sc_retreat : FnScope N_retreat ["queues"] (defScope s_retreat) := ⟨rfl, rfl, rfl, by decide +kernel, rfl, by decide +kernel, by decide +kernel⟩
abbrev s_is_retreat : Stmt := topS 42
abbrev N_is_retreat : List Str := ["queues", "value"]
theorem sc_is_retreat : FnScope N_is_retreat ["queues", "value"] (defScope s_is_retreat) := ⟨rfl, rfl, rfl, by decide +kernel, rfl, by decide +kernel, by decide +kernel⟩
abbrev s_gridlock_paper : Stmt := topS 44
abbrev N_gridlock_paper : List Str := ["queues", "back", "greatest", "steps", "final"]
theorem sc_gridlock_paper : FnScope N_gridlock_paper ["queues"] (defScope s_gridlock_paper) := ⟨rfl, rfl, rfl, by decide +kernel, rfl, by decide +kernel, by decide +kernel⟩
abbrev s_is_gridlock_paper : Stmt := topS 45
abbrev N_is_gridlock_paper : List Str := ["queues", "value", "greatest"]
theorem sc_is_gridlock_paper : FnScope N_is_gridlock_paper ["queues", "value"] (defScope s_is_gridlock_paper) := ⟨rfl, rfl, rfl, by decide +kernel, rfl, by decide +kernel, by decide +kernel⟩
abbrev s_check_house : Stmt := topS 47
abbrev N_check_house : List Str := ["queues", "house"]
theorem sc_check_house : FnScope N_check_house ["queues", "house"] (defScope s_check_house) := ⟨rfl, rfl, rfl, by decide +kernel, rfl, by decide +kernel, by decide +kernel⟩
abbrev s_needed : Stmt := topS 48
abbrev N_needed : List Str := ["queues", "house", "goal", "poor", "numbers", "at", "state", "lent", "steps", "last", "balances", "line", "loan", "each"]
theorem sc_needed : FnScope N_needed ["queues", "house", "goal"] (defScope s_needed) := ⟨rfl, rfl, rfl, by decide +kernel, rfl, by decide +kernel, by decide +kernel⟩
abbrev s_needed_cash : Stmt := topS 49
abbrev N_needed_cash : List Str := ["queues", "house", "goal"]
theorem sc_needed_cash : FnScope N_needed_cash ["queues", "house", "goal"] (defScope s_needed_cash) := ⟨rfl, rfl, rfl, by decide +kernel, rfl, by decide +kernel, by decide +kernel⟩
abbrev s_lack : Stmt := topS 50
abbrev N_lack : List Str := ["queues", "house", "found", "own"]
theorem sc_lack : FnScope N_lack ["queues", "house"] (defScope s_lack) := ⟨rfl, rfl, rfl, by decide +kernel, rfl, by decide +kernel, by decide +kernel⟩
abbrev s_check_two : Stmt := topS 53
abbrev N_check_two : List Str := ["queues", "one", "other"]
theorem sc_check_two : FnScope N_check_two ["queues", "one", "other"] (defScope s_check_two) := ⟨rfl, rfl, rfl, by decide +kernel, rfl, by decide +kernel, by decide +kernel⟩
abbrev s_sum_of_all : Stmt := topS 54
abbrev N_sum_of_all : List Str := ["queues", "creditor", "amount", "part"]
theorem sc_sum_of_all : FnScope N_sum_of_all ["queues"] (defScope s_sum_of_all) := ⟨rfl, rfl, rfl, by decide +kernel, rfl, by decide +kernel, by decide +kernel⟩
abbrev s_pairs_of : Stmt := topS 55
abbrev N_pairs_of : List Str := ["queues", "one", "other", "goal", "pairs", "first", "second"]
theorem sc_pairs_of : FnScope N_pairs_of ["queues", "one", "other"] (defScope s_pairs_of) := ⟨rfl, rfl, rfl, by decide +kernel, rfl, by decide +kernel, by decide +kernel⟩
abbrev s_needed_stairs : Stmt := topS 56
abbrev N_needed_stairs : List Str := ["queues", "one", "other"]
theorem sc_needed_stairs : FnScope N_needed_stairs ["queues", "one", "other"] (defScope s_needed_stairs) := ⟨rfl, rfl, rfl, by decide +kernel, rfl, by decide +kernel, by decide +kernel⟩
abbrev s__law_begun : Stmt := topS 58
abbrev N__law_begun : List Str := ["script", "wide", "grain"]
theorem sc__law_begun : FnScope N__law_begun ["script"] (defScope s__law_begun) := ⟨rfl, rfl, rfl, by decide +kernel, rfl, by decide +kernel, by decide +kernel⟩
abbrev s__law_mixed : Stmt := topS 59
abbrev N__law_mixed : List Str := ["draw", "turn", "found", "prime", "blend", "grain"]
theorem sc__law_mixed : FnScope N__law_mixed ["draw"] (defScope s__law_mixed) := ⟨rfl, rfl, rfl, by decide +kernel, rfl, by decide +kernel, by decide +kernel⟩
abbrev s__law_take : Stmt := topS 60
abbrev N__law_take : List Str := ["draw", "many", "found"]
theorem sc__law_take : FnScope N__law_take ["draw", "many"] (defScope s__law_take) := ⟨rfl, rfl, rfl, by decide +kernel, rfl, by decide +kernel, by decide +kernel⟩
abbrev s__law_pick : Stmt := topS 61
abbrev N__law_pick : List Str := ["draw", "some"]
theorem sc__law_pick : FnScope N__law_pick ["draw", "some"] (defScope s__law_pick) := ⟨rfl, rfl, rfl, by decide +kernel, rfl, by decide +kernel, by decide +kernel⟩
abbrev s__law_shuffled : Stmt := topS 62
abbrev N__law_shuffled : List Str := ["draw", "some", "left", "found"]
theorem sc__law_shuffled : FnScope N__law_shuffled ["draw", "some"] (defScope s__law_shuffled) := ⟨rfl, rfl, rfl, by decide +kernel, rfl, by decide +kernel, by decide +kernel⟩
abbrev s__law_names : Stmt := topS 63
abbrev N__law_names : List Str := ["draw", "many", "letters", "shift", "step", "cut", "common", "k", "is_alike", "found", "body", "lap", "own", "text", "at"]
theorem sc__law_names : FnScope N__law_names ["draw", "many"] (defScope s__law_names) := ⟨rfl, rfl, rfl, by decide +kernel, rfl, by decide +kernel, by decide +kernel⟩
abbrev s__law_lists : Stmt := topS 64
abbrev N__law_lists : List Str := ["draw", "names", "most", "top", "payments", "cash", "name", "lap", "some", "amount", "is_even", "k", "one", "other"]
theorem sc__law_lists : FnScope N__law_lists ["draw", "names", "most", "top"] (defScope s__law_lists) := ⟨rfl, rfl, rfl, by decide +kernel, rfl, by decide +kernel, by decide +kernel⟩
abbrev s__law_by_name : Stmt := topS 65
abbrev N__law_by_name : List Str := ["queues", "state", "house", "many"]
theorem sc__law_by_name : FnScope N__law_by_name ["queues", "state"] (defScope s__law_by_name) := ⟨rfl, rfl, rfl, by decide +kernel, rfl, by decide +kernel, by decide +kernel⟩
abbrev s__law_state : Stmt := topS 66
abbrev N__law_state : List Str := ["queues", "told", "house"]
theorem sc__law_state : FnScope N__law_state ["queues", "told"] (defScope s__law_state) := ⟨rfl, rfl, rfl, by decide +kernel, rfl, by decide +kernel, by decide +kernel⟩
abbrev s__law_held : Stmt := topS 67
abbrev N__law_held : List Str := ["queues", "told", "found", "house", "name", "cash", "payments", "creditor", "amount"]
theorem sc__law_held : FnScope N__law_held ["queues", "told"] (defScope s__law_held) := ⟨rfl, rfl, rfl, by decide +kernel, rfl, by decide +kernel, by decide +kernel⟩
abbrev s__law_run_out : Stmt := topS 68
abbrev N__law_run_out : List Str := ["queues", "told", "house", "lap", "held", "some", "name", "cash", "payments"]
theorem sc__law_run_out : FnScope N__law_run_out ["queues"] (defScope s__law_run_out) := ⟨rfl, rfl, rfl, by decide +kernel, rfl, by decide +kernel, by decide +kernel⟩
abbrev s__law_drawn_back : Stmt := topS 69
abbrev N__law_drawn_back : List Str := ["queues", "told", "house", "lap", "held", "some", "name"]
theorem sc__law_drawn_back : FnScope N__law_drawn_back ["queues"] (defScope s__law_drawn_back) := ⟨rfl, rfl, rfl, by decide +kernel, rfl, by decide +kernel, by decide +kernel⟩
abbrev s__law_through : Stmt := topS 70
abbrev N__law_through : List Str := ["queues", "house", "fresh", "found", "name", "cash", "payments", "other", "amount"]
theorem sc__law_through : FnScope N__law_through ["queues", "house", "fresh"] (defScope s__law_through) := ⟨rfl, rfl, rfl, by decide +kernel, rfl, by decide +kernel, by decide +kernel⟩
abbrev s__law_state_with : Stmt := topS 71
abbrev N__law_state_with : List Str := ["queues", "other", "state", "fresh", "many", "told"]
theorem sc__law_state_with : FnScope N__law_state_with ["queues", "other", "state", "fresh", "many"] (defScope s__law_state_with) := ⟨rfl, rfl, rfl, by decide +kernel, rfl, by decide +kernel, by decide +kernel⟩
abbrev s__law_number_of : Stmt := topS 72
abbrev N__law_number_of : List Str := ["queues", "state", "house"]
theorem sc__law_number_of : FnScope N__law_number_of ["queues", "state", "house"] (defScope s__law_number_of) := ⟨rfl, rfl, rfl, by decide +kernel, rfl, by decide +kernel, by decide +kernel⟩
abbrev s__law_needs_right : Stmt := topS 73
abbrev N__law_needs_right : List Str := ["draw", "queues", "other", "house", "fresh", "is_through", "names", "part", "goal", "start", "far", "name", "some", "one", "last"]
theorem sc__law_needs_right : FnScope N__law_needs_right ["draw", "queues", "other", "house", "fresh", "is_through"] (defScope s__law_needs_right) := ⟨rfl, rfl, rfl, by decide +kernel, rfl, by decide +kernel, by decide +kernel⟩
abbrev s__law_through_right : Stmt := topS 74
abbrev N__law_through_right : List Str := ["draw", "queues", "house", "fresh", "other", "work", "own", "steps", "name", "paper", "again", "state"]
theorem sc__law_through_right : FnScope N__law_through_right ["draw", "queues", "house", "fresh"] (defScope s__law_through_right) := ⟨rfl, rfl, rfl, by decide +kernel, rfl, by decide +kernel, by decide +kernel⟩
abbrev s__law_told_right : Stmt := topS 75
abbrev N__law_told_right : List Str := ["draw", "queues", "house", "fresh", "cash", "part", "found", "name", "own", "payments", "other", "work"]
theorem sc__law_told_right : FnScope N__law_told_right ["draw", "queues", "house", "fresh"] (defScope s__law_told_right) := ⟨rfl, rfl, rfl, by decide +kernel, rfl, by decide +kernel, by decide +kernel⟩
abbrev s_law : Stmt := topS 76
abbrev N_law : List Str := ["script", "draw", "turn", "names", "fresh", "queues", "house"]
theorem sc_law : FnScope N_law ["script"] (defScope s_law) := ⟨rfl, rfl, rfl, by decide +kernel, rfl, by decide +kernel, by decide +kernel⟩

/-! ### what the top has left -/
abbrev keptL : List Str := ["cannot", "done", "none", "nothing", "row", "what"]
abbrev lettersS : Str := "abcdefghijklmnopqrstuvwxyz"
structure Tk where
  l : Tok
  h : Tok
  p : Tok
  c : Tok
  m : Tok
structure Tx (K : PySem.W.Frag) (mg : Str → Option Value) (aK : Addr) (tk : Tk) : Prop where
  len : mg "len" = none
  isinstance : mg "isinstance" = none
  all : mg "all" = none
  tuple : mg "tuple" = none
  dict : mg "dict" = none
  range : mg "range" = none
  int : mg "int" = none
  str : mg "str" = none
  bool : mg "bool" = none
  list : mg "list" = none
  abs : mg "abs" = none
  min : mg "min" = none
  sorted : mg "sorted" = none
  enumerate : mg "enumerate" = none
  zip : mg "zip" = none
  max : mg "max" = none
  sum : mg "sum" = none
  g_KEPT : mg "KEPT" = some (.ref aK)
  g_LETTERS : mg "LETTERS" = some (.str lettersS tk.l)
  g_MOST_HOUSES : mg "MOST_HOUSES" = some (.int 40 tk.h)
  g_MOST_PAYMENTS : mg "MOST_PAYMENTS" = some (.int 60 tk.p)
  g_MOST_CASH : mg "MOST_CASH" = some (.int 1000000 tk.c)
  g_MOST_PAIRS : mg "MOST_PAIRS" = some (.int 60 tk.m)
  k_KEPT : ∃ (o : Obj) (its : Array Value) (n : Nat), K.lookup aK = some o ∧ o.cls = .type "tuple" ∧ o.data = .seq its n ∧ its.size ≤ sizeLine ∧ Vals (keptL.map V.str) its.toList
section
variable {K : PySem.W.Frag} {mg : Str → Option Value} {aK : Addr} {tk : Tk}
theorem Tx.r_KEPT (_ : Tx K mg aK tk) : RelV (.ref aK) (.ref aK) := rfl
theorem Tx.r_LETTERS (_ : Tx K mg aK tk) : RelV (.str lettersS) (.str lettersS tk.l) := ⟨tk.l, rfl⟩
theorem Tx.r_MOST_HOUSES (_ : Tx K mg aK tk) : RelV (.int 40) (.int 40 tk.h) := ⟨tk.h, rfl⟩
theorem Tx.r_MOST_PAYMENTS (_ : Tx K mg aK tk) : RelV (.int 60) (.int 60 tk.p) := ⟨tk.p, rfl⟩
theorem Tx.r_MOST_CASH (_ : Tx K mg aK tk) : RelV (.int 1000000) (.int 1000000 tk.c) := ⟨tk.c, rfl⟩
theorem Tx.r_MOST_PAIRS (_ : Tx K mg aK tk) : RelV (.int 60) (.int 60 tk.m) := ⟨tk.m, rfl⟩
theorem Tx.s_KEPT (T : Tx K mg aK tk) (H : Hp) : SqT K H aK (keptL.map V.str) := Or.inr T.k_KEPT
end
end NQ
namespace NQ
open PySem PySem.Spec PyProof.Rows L2 Evl
abbrev AscS (l : List Str) : Prop := l.Pairwise fun x y => x.cps.toList < y.cps.toList
theorem get_of {α : Type} {l : List α} {n i : Nat} (hl : l.length = n) (hi : i < n) : ∃ x, l[i]? = some x := ⟨l[i], List.getElem?_eq_getElem (by omega)⟩
theorem map_at {α β : Type} {g : α → β} {l : List α} {i : Nat} {y : β} (h : (l.map g)[i]? = some y) : ∃ x, l[i]? = some x ∧ y = g x := by
  rw [List.getElem?_map] at h
  cases e : l[i]? with
  | none =>
    rw [e] at h
    cases h
  | some x =>
    rw [e] at h
    exact ⟨x, rfl, (Option.some.inj h).symm⟩
theorem asc_at {α : Type} {R : α → α → Prop} {l : List α} (h : l.Pairwise R) {i : Nat} {x y : α} (hx : l[i]? = some x) (hy : l[i + 1]? = some y) : R x y := by
  obtain ⟨h1, rfl⟩ := List.getElem?_eq_some_iff.mp hx
  obtain ⟨h2, rfl⟩ := List.getElem?_eq_some_iff.mp hy
  exact List.pairwise_iff_getElem.mp h i (i + 1) h1 h2 (by omega)
theorem valV_merge_not {k : Key} : ∀ {kvs acc : List (Key × V)}, k ∉ kvs.map (·.1) → valV (mergeK acc kvs) k = valV acc k
  | [], _, _ => rfl
  | p :: r, acc, h => by
    have h1 : k ≠ p.1 := fun e => h (by rw [e]; exact List.mem_cons_self)
    have h2 : k ∉ r.map (·.1) := fun e => h (List.mem_cons_of_mem _ e)
    show valV (mergeK (putK acc p.1 p.2) r) k = _
    rw [valV_merge_not h2, valV_put, if_neg h1]
theorem valV_merge_get {k : Key} {v : V} : ∀ {kvs acc : List (Key × V)} {i : Nat}, (kvs.map (·.1)).Nodup → kvs[i]? = some (k, v) → valV (mergeK acc kvs) k = some v
  | [], _, _, _, h => by simp at h
  | p :: r, acc, 0, hn, h => by
    have e : p = (k, v) := Option.some.inj h
    subst e
    have h2 : k ∉ r.map (·.1) := (List.nodup_cons.mp hn).1
    show valV (mergeK (putK acc k v) r) k = _
    rw [valV_merge_not h2, valV_put, if_pos rfl]
  | p :: r, acc, i + 1, hn, h => by
    show valV (mergeK (putK acc p.1 p.2) r) k = _
    exact valV_merge_get (List.nodup_cons.mp hn).2 (by simpa using h)
theorem isSome_merge {k : Key} : ∀ {kvs acc : List (Key × V)}, (valV (mergeK acc kvs) k).isSome = true ↔ (valV acc k).isSome = true ∨ k ∈ kvs.map (·.1)
  | [], acc => by
    show (valV acc k).isSome = true ↔ _
    simp
  | p :: r, acc => by
    show (valV (mergeK (putK acc p.1 p.2) r) k).isSome = true ↔ _
    rw [isSome_merge, valV_put]
    by_cases e : k = p.1
    · rw [if_pos e, List.map_cons, e]
      simp
    · rw [if_neg e, List.map_cons, List.mem_cons]
      constructor
      · rintro (h | h)
        · exact .inl h
        · exact .inr (.inr h)
      · rintro (h | h | h)
        · exact .inl h
        · exact absurd h e
        · exact .inr h
theorem paired_of {α β : Type} {F : α → β → Prop} : ∀ {xs : List α} {ys : List β}, xs.length = ys.length → (∀ (i : Nat) x y, xs[i]? = some x → ys[i]? = some y → F x y) → Paired F xs ys
  | [], [], _, _ => .nil
  | x :: xs, y :: ys, hl, h => .cons (h 0 x y rfl rfl) (paired_of (by simpa using hl) fun i a b ha hb => h (i + 1) a b (by simpa using ha) (by simpa using hb))
theorem asc_nodup : ∀ {zs : List Str}, AscS zs → zs.Nodup := fun {zs} h => h.imp fun {a b} hab e => by
  subst e
  exact List.lt_irrefl _ hab
theorem mem_zip_at {α β : Type} {xs : List α} {ys : List β} {r : α × β} (h : r ∈ xs.zip ys) : ∃ j : Nat, xs[j]? = some r.1 ∧ ys[j]? = some r.2 := by
  obtain ⟨j, hj⟩ := List.mem_iff_getElem?.mp h
  rw [List.getElem?_zip_eq_some] at hj
  exact ⟨j, hj⟩
theorem snoc_at {α : Type} {xs : List α} {y z : α} {i j : Nat} (hl : xs.length = i) (h : (xs ++ [y])[j]? = some z) : (j < i ∧ xs[j]? = some z) ∨ (j = i ∧ z = y) := by
  by_cases hj : j < i
  · rw [List.getElem?_append_left (by omega)] at h
    exact Or.inl ⟨hj, h⟩
  · have hj2 : j = i := by
      have := (List.getElem?_eq_some_iff.mp h).1
      rw [List.length_append, List.length_singleton] at this
      omega
    subst hj2
    rw [List.getElem?_append_right (by omega), hl, Nat.sub_self] at h
    cases h
    exact Or.inr ⟨rfl, rfl⟩
theorem str_ne {x y : Str} (h : x ≠ y) : x.cps.toList ≠ y.cps.toList := fun e => h (by
  obtain ⟨⟨a⟩⟩ := x
  obtain ⟨⟨b⟩⟩ := y
  have e' : a = b := e
  rw [e'])
theorem rising_asc : ∀ (l : List Str) (p : Str), risingS p l = true → (p :: l).Nodup → AscS (p :: l)
  | [], p, _, _ => List.pairwise_singleton _ _
  | x :: r, p, h, hn => by
    obtain ⟨n1, n2⟩ := List.nodup_cons.mp hn
    have h' : (!ltCps x.cps.toList p.cps.toList && risingS x r) = true := h
    rw [Bool.and_eq_true, Bool.not_eq_true', ltCps_eq] at h'
    have ih := rising_asc r x h'.2 n2
    have hlt : p.cps.toList < x.cps.toList := Std.lt_of_le_of_ne (List.not_lt.mp (of_decide_eq_false h'.1)) (str_ne fun e => n1 (by rw [e]; exact List.mem_cons_self))
    refine List.pairwise_cons.mpr ⟨fun y hy => ?_, ih⟩
    rcases List.mem_cons.mp hy with e | e
    · rw [e]
      exact hlt
    · exact List.lt_trans hlt ((List.pairwise_cons.mp ih).1 y e)
theorem sorted_asc {l : List Str} (h : sortedS l = true) (hn : l.Nodup) : AscS l := by
  cases l with
  | nil => exact List.Pairwise.nil
  | cons x r => exact rising_asc r x h hn
theorem erase_perm {α : Type} : ∀ (l : List α) {i : Nat} (h : i < l.length), ([l[i]] ++ l.eraseIdx i).Perm l
  | x :: r, 0, _ => List.Perm.refl _
  | x :: r, i + 1, h => (List.Perm.swap x _ _).trans ((erase_perm r (i := i) (by simpa using h)).cons x)
theorem map_erase {α β : Type} (g : α → β) : ∀ (l : List α) (i : Nat), (l.map g).eraseIdx i = (l.eraseIdx i).map g
  | [], _ => rfl
  | x :: r, 0 => rfl
  | x :: r, i + 1 => by
    show g x :: (r.map g).eraseIdx i = g x :: (r.eraseIdx i).map g
    rw [map_erase g r i]
theorem seqIx {i n : Nat} (h : i < n) : seqIndex? (i : Int) n = some i := by
  have h1 : ¬ (i : Int) < 0 := by omega
  have h2 : (i : Int) < (n : Int) := by omega
  unfold seqIndex?
  simp [h1, h2, h]
theorem atI_mem {xs : List V} {i : Nat} (hi : i < xs.length) : ∃ x, x ∈ xs ∧ atI xs (i : Int) = some x := ⟨xs[i], List.getElem_mem hi, at_of rfl (List.getElem?_eq_getElem hi)⟩
theorem cut_front (xs : List V) (n : Nat) : cutV xs none (some (n : Int)) = xs.take n := by
  unfold cutV
  rw [HT.sIx_none, show HT.sIx xs.length xs.length (some (n : Int)) = min n xs.length from HT.sIx_nat _ _ n, List.drop_zero, Nat.sub_zero]
  rw [Nat.min_comm, List.take_eq_take_iff]
  omega
theorem cut_rest (xs : List V) : cutV xs (some 1) none = xs.drop 1 := by
  have h : xs.length - min 1 xs.length = (xs.drop 1).length := by
    rw [List.length_drop]
    omega
  unfold cutV
  rw [HT.sIx_none, show HT.sIx xs.length 0 (some 1) = min 1 xs.length from HT.sIx_nat _ _ 1, h]
  cases xs with
  | nil => rfl
  | cons x r =>
    rw [show min 1 (x :: r).length = 1 by rw [List.length_cons]; omega]
    exact List.take_length
theorem putK_len {kvs : List (Key × V)} {k : Key} {v w : V} (h : valV kvs k = some w) : (putK kvs k v).length = kvs.length := by
  unfold putK
  rw [valV_any, h]
  rw [if_pos (show (some w).isSome = true from rfl), List.length_map]
section
variable {K : PySem.W.Frag} {σ : L2.St} {H H' : Hp} {ta tb te tx td ty : TE} {t u : TT} {x y z v : V} {tr : TA} {D : Ends} {tz : TS}
theorem ev_dget {k : Key} {D : Addr} {kvs : List (Key × V)} (hd : Ev td σ H (.ref D)) (hk : Ev ty σ H (kV k)) (hD : H D = some (.dK kvs)) (hv : valV kvs k = some v) : Ev (tDGet td ty) σ H v := fun H1 e Q q => by
  refine hd H1 e _ fun H2 e2 => ?_
  refine hk H2 (e.trans e2) _ fun H3 e3 => ?_
  have g := DGet.k (k := k) (((e.trans e2).trans e3) _ _ hD)
  rw [hv] at g
  exact ⟨D, v, rfl, g, q H3 (e2.trans e3)⟩
theorem ed_dget {k : Key} {kvs : List (Key × V)} (hd : EvD td σ H kvs) (hk : Ev ty σ H (kV k)) (hv : valV kvs k = some v) : Ev (tDGet td ty) σ H v := fun H1 e Q q => by
  refine hd H1 e _ fun D H2 _ e2 hD => ?_
  refine hk H2 (e.trans e2) _ fun H3 e3 => ?_
  have g := DGet.k (k := k) (e3 _ _ hD)
  rw [hv] at g
  exact ⟨D, v, rfl, g, q H3 (e2.trans e3)⟩
theorem ev_din {k : Key} {D : Addr} {kvs : List (Key × V)} (hk : Ev ty σ H (kV k)) (hd : Ev td σ H (.ref D)) (hD : H D = some (.dK kvs)) : Ev (tDIn ty td) σ H (.bl (valV kvs k).isSome) := fun H1 e Q q => by
  refine hk H1 e _ fun H2 e2 => ?_
  refine hd H2 (e.trans e2) _ fun H3 e3 => ?_
  exact ⟨D, valV kvs k, rfl, DGet.k (((e.trans e2).trans e3) _ _ hD), q H3 (e2.trans e3)⟩
theorem ed_din {k : Key} {kvs : List (Key × V)} (hk : Ev ty σ H (kV k)) (hd : EvD td σ H kvs) : Ev (tDIn ty td) σ H (.bl (valV kvs k).isSome) := fun H1 e Q q => by
  refine hk H1 e _ fun H2 e2 => ?_
  refine hd H2 (e.trans e2) _ fun D H3 _ e3 hD => ?_
  exact ⟨D, valV kvs k, rfl, DGet.k hD, q H3 (e2.trans e3)⟩
theorem ed_dnotin {k : Key} {kvs : List (Key × V)} (hk : Ev ty σ H (kV k)) (hd : EvD td σ H kvs) : Ev (tDNotIn ty td) σ H (.bl (!(valV kvs k).isSome)) := fun H1 e Q q => by
  refine hk H1 e _ fun H2 e2 => ?_
  refine hd H2 (e.trans e2) _ fun D H3 _ e3 hD => ?_
  exact ⟨D, valV kvs k, rfl, DGet.k hD, q H3 (e2.trans e3)⟩
theorem ev_mul {i j : Int} (ha : Ev ta σ H (.int i)) (hb : Ev tb σ H (.int j)) (hc : CMul i j) : Ev (tOp (rI CMul fun i j => .int (i * j)) ta tb) σ H (.int (i * j)) := ev_op ha hb (rv_I hc)
theorem ev_fdiv {i j : Int} (ha : Ev ta σ H (.int i)) (hb : Ev tb σ H (.int j)) (hc : CDiv i j) : Ev (tOp (rI CDiv fun i j => .int (i / j)) ta tb) σ H (.int (i / j)) := ev_op ha hb (rv_I hc)
theorem ev_mod {i j : Int} (ha : Ev ta σ H (.int i)) (hb : Ev tb σ H (.int j)) (hc : 0 < j) : Ev (tOp (rI (fun _ j => 0 < j) fun i j => .int (i % j)) ta tb) σ H (.int (i % j)) := ev_op ha hb (rv_I hc)
theorem ev_pow {i j : Int} (ha : Ev ta σ H (.int i)) (hb : Ev tb σ H (.int j)) (hc : CPow i j) : Ev (tOp (rI CPow fun i j => .int (i ^ j.toNat)) ta tb) σ H (.int (i ^ j.toNat)) := ev_op ha hb (rv_I hc)
theorem ev_int {i : Int} (ha : Ev ta σ H (.int i)) : Ev (tCB (fun xs H Q => (∃ i, xs = [.int i] ∧ Q (.int i) H) ∨ ∃ k, xs = [.bl k] ∧ Q (.int (if k then 1 else 0)) H) (tCons ta tNil)) σ H (.int i) := fun H1 e Q q => by
  refine ha H1 e _ fun H2 e2 => ?_
  exact Or.inl ⟨i, rfl, q H2 e2⟩
theorem ev_abs {i : Int} (ha : Ev ta σ H (.int i)) : Ev (tCB (fun xs H Q => ∃ i, xs = [.int i] ∧ Q (.int (if i < 0 then -i else i)) H) (tCons ta tNil)) σ H (.int (if i < 0 then -i else i)) := fun H1 e Q q => by
  refine ha H1 e _ fun H2 e2 => ?_
  exact ⟨i, rfl, q H2 e2⟩
theorem ev_neNil {p : Addr} {xs : List V} {ds : List PyData} (ha : Ev ta σ H (.ref p)) (hp : H p = some (.lst xs)) (hd : DpAll K H xs ds) (hds : ∀ H1, Ex H H1 → DpAll K H1 xs ds) (hs : SeqAt.shaped (.list ds) = true) : Ev (tOp (rNeD K) ta (tLst tNil)) σ H (.bl (!xs.isEmpty)) := fun H1 e Q q => by
  refine ha H1 e _ fun H2 e2 => ?_
  refine ⟨Nat.zero_le _, fun n hn => ?_⟩
  have x1 : Ex H2 (upd H2 n (.lst [])) := Ex.new hn
  have e3 := (e.trans e2).trans x1
  refine ⟨.list ds, .list [], .lst (sq_of (e3 _ _ hp)) (hds _ e3), .lst (sq_of upd_same) .nil, hs, by decide, ?_⟩
  have eb : PyData.eqv (.list ds) (.list []) = xs.isEmpty := by
    cases xs with
    | nil =>
      cases hd
      rfl
    | cons x r =>
      cases hd
      rfl
  rw [eb]
  exact q _ (e2.trans x1)
theorem dp_ints (H : Hp) : ∀ ns : List Int, DpAll K H (ns.map V.int) (ns.map PyData.int)
  | [] => .nil
  | n :: r => .cons (.int n) (dp_ints H r)
theorem canLay_ints : ∀ ns : List Int, PyData.canLayAll0 (ns.map PyData.int) = true
  | [] => by simp [PyData.canLayAll0]
  | n :: r => by
    rw [List.map_cons, PyData.canLayAll0, canLay_ints r]
    simp [PyData.canLay0]
theorem depth_ints : ∀ ns : List Int, PyData.depthAll (ns.map PyData.int) = 0
  | [] => by simp [PyData.depthAll]
  | n :: r => by
    rw [List.map_cons, PyData.depthAll, depth_ints r]
    simp [PyData.depth]
theorem shaped_ints (ns : List Int) : SeqAt.shaped (.list (ns.map PyData.int)) = true := by
  unfold SeqAt.shaped
  rw [PyData.canLay0, canLay_ints, PyData.depth, depth_ints]
  rfl
theorem dp_strs {K : PySem.W.Frag} (H : Hp) : ∀ zs : List Str, DpAll K H (zs.map V.str) (zs.map PyData.str)
  | [] => .nil
  | n :: r => .cons (.str n) (dp_strs H r)
theorem canLay_strs : ∀ zs : List Str, (∀ z ∈ zs, PyData.strOk z = true) → PyData.canLayAll0 (zs.map PyData.str) = true
  | [], _ => by simp [PyData.canLayAll0]
  | n :: r, h => by
    rw [List.map_cons, PyData.canLayAll0, canLay_strs r fun z hz => h z (List.mem_cons_of_mem _ hz), PyData.canLay0, h n List.mem_cons_self]
    rfl
theorem depth_strs : ∀ zs : List Str, PyData.depthAll (zs.map PyData.str) = 0
  | [] => by simp [PyData.depthAll]
  | n :: r => by
    rw [List.map_cons, PyData.depthAll, depth_strs r]
    simp [PyData.depth]
theorem shaped_strs {zs : List Str} (h : ∀ z ∈ zs, PyData.strOk z = true) : SeqAt.shaped (.list (zs.map PyData.str)) = true := by
  unfold SeqAt.shaped
  rw [PyData.canLay0, canLay_strs zs h, PyData.depth, depth_strs]
  rfl
theorem ev_lenA {p : Addr} {xs : List V} (ha : Ev ta σ H (.ref p)) (h : ∀ H1, Ex H H1 → SqL K H1 p xs ∨ SqT K H1 p xs) : Ev (tCB (rLenS K) (tCons ta tNil)) σ H (.int (xs.length : Int)) := fun H1 e Q q => by
  refine ha H1 e _ fun H2 e2 => ?_
  exact ⟨p, xs, rfl, h H2 (e.trans e2), q H2 e2⟩
abbrev rIsNon : R2 := fun x y H Q => y = .non ∧ Q (.bl (decide (x = .non))) H
theorem ev_isNon (ha : Ev ta σ H x) : Ev (tOp rIsNon ta (tC .non)) σ H (.bl (decide (x = .non))) := ev_op ha ev_c fun H1 _ _ q => ⟨rfl, q H1 (Ex.refl H1)⟩
theorem ev_eqI {i j : Int} (ha : Ev ta σ H (.int i)) (hb : Ev tb σ H (.int j)) : Ev (tOp rEq ta tb) σ H (.bl (decide (i = j))) := ev_is (ev_op ha hb (rv_eq rfl)) (by
  by_cases h : i = j
  · rw [decide_eq_true h, decide_eq_true (show V.int i = V.int j by rw [h])]
  · rw [decide_eq_false h, decide_eq_false (fun z => h (V.int.inj z))])
theorem q_asgT2 {p : Addr} {i j : Nat} (h : Ev te σ H (.ref p)) (hp : H p = some (.tup [x, y])) (k : ∀ H1, Ex H H1 → tz D ((σ.set i (some x)).set j (some y)) H1) :
    tSeq (tAsg te (gTup K 2 (gCons (gName i) (gCons (gName j) gNil)))) tz D σ H := h H (Ex.refl H) _ fun H1 e => ⟨p, [x, y], rfl, st_of (e _ _ hp), rfl, x, [y], rfl, y, [], rfl, rfl, k H1 e⟩
theorem gv_tup2 {ys : List V} (ha : Ev ta σ H x) (hb : EvU tb σ H ys) : Gv (tTup (tCons ta (tCons tb tNil))) σ H (fun v H2 => ∃ p q, v = .ref p ∧ H2 p = some (.tup [x, .ref q]) ∧ H2 q = some (.tup ys)) := fun H1 e Q k => by
  refine ha H1 e _ fun H2 e2 => ?_
  refine hb H2 (e.trans e2) _ fun q H3 _ e3 hq => ?_
  refine ⟨(by show 2 ≤ sizeLine; decide), fun p hp => ?_⟩
  refine k _ _ ((e2.trans e3).trans (Ex.new hp)) ⟨p, q, rfl, upd_same, ?_⟩
  rw [upd_ne (ne_of_none hq hp)]
  exact hq
theorem s_appG {l : Addr} {xs : List V} {P : V → Hp → Prop} (hl : H l = some (.lst xs)) (ha : Ev ta σ H (.ref l)) (h : Gv te σ H P) (hz : xs.length < 100000) (k : ∀ v H1, Ex H H1 → P v H1 → D.nx σ (upd H1 l (.lst (xs ++ [v])))) :
    tDrop (tBM K "list" rAppend ta (tCons te tNil)) D σ H := ha H (Ex.refl H) _ fun H1 e1 =>
  ⟨Or.inl ⟨rfl, xs, sq_of (e1 l _ hl)⟩, h H1 e1 _ fun v H2 e2 hv => ⟨l, xs, v, rfl, rfl, e2 l _ (e1 l _ hl), sz_lt hz, k v H2 (e1.trans e2) hv⟩⟩
theorem inV_ints (d : Int) (ns : List Int) : inV (.int d) (ns.map V.int) = decide (d ∈ ns) := by
  unfold inV
  rw [List.any_map]
  by_cases h : d ∈ ns
  · rw [decide_eq_true h]
    exact List.any_eq_true.mpr ⟨d, h, by show (d == d) = true; simp⟩
  · rw [decide_eq_false h]
    refine List.any_eq_false.mpr fun n hn => ?_
    show ¬ (n == d) = true
    intro e
    have := eq_of_beq e
    subst this
    exact h hn
theorem q_asgK {i : Nat} (h : te σ H fun v H1 => tz D (σ.set i (some v)) H1) : tSeq (tAsg te (gName i)) tz D σ H := h
theorem q_ifM {b : Bool} {c : TT} {tu : TS} (hc : EvT c σ H b) (M : Hp → Prop) (h1 : b = true → ∀ H1, Ex H H1 → tu { D with nx := fun σ' H' => σ' = σ ∧ M H' } σ H1) (h2 : b = false → ∀ H1, Ex H H1 → M H1) (k : ∀ H1, M H1 → tz D σ H1)
    (hmono : ∀ N N' : L2.St → Hp → Prop, (∀ σ' H', N σ' H' → N' σ' H') → ∀ H1, tu { D with nx := N } σ H1 → tu { D with nx := N' } σ H1) : tSeq (tIfS c tu tNext) tz D σ H := by
  refine hc H (Ex.refl H) _ fun H1 e1 => ?_
  cases b with
  | true =>
    rw [if_pos rfl]
    refine hmono _ _ ?_ H1 (h1 rfl H1 e1)
    rintro σ' H' ⟨rfl, m⟩
    exact k H' m
  | false =>
    rw [if_neg Bool.false_ne_true]
    exact k H1 (h2 rfl H1 e1)
end
end NQ
namespace NQ
open PySem PySem.Spec PyProof.Rows L2 Evl
/-- tuples stand -/
def TX (H H' : Hp) : Prop := ∀ a xs, H a = some (.tup xs) → H' a = some (.tup xs)
theorem TX.refl (H : Hp) : TX H H := fun _ _ h => h
theorem TX.trans {H H1 H2 : Hp} (a : TX H H1) (b : TX H1 H2) : TX H H2 := fun x o h => b x o (a x o h)
theorem TX.of {H H' : Hp} (e : Ex H H') : TX H H' := fun a xs h => e a _ h
theorem TX.updL {H : Hp} {p : Addr} {xs : List V} {o : HO} (h : H p = some (.lst xs)) : TX H (upd H p o) := fun a ys ha => by
  rw [upd_ne (ne_of ha h (by intro z; cases z))]
  exact ha
theorem TX.updD {H : Hp} {p : Addr} {kvs : List (Key × V)} {o : HO} (h : H p = some (.dK kvs)) : TX H (upd H p o) := fun a ys ha => by
  rw [upd_ne (ne_of ha h (by intro z; cases z))]
  exact ha
section
variable {K : PySem.W.Frag} {a b : Addr} {xs ys : List V}
theorem walk_enumT : Walk (IteT K a) xs.length (fun H => SqT K H a xs) (YPair (fun i => some (.int (i : Nat))) (fun i => xs[i]?)) := by
  refine ⟨fun i _ hi q => ⟨xs, xs[i], q, by simp [hi]⟩, fun _ q => ⟨xs, q, rfl⟩, fun i H v H' _ q y => ?_⟩
  obtain ⟨T, x, h1, h2, h3, h4⟩ := y
  exact ⟨T, .int (i : Nat), x, h1, h2, h3, rfl, h4 xs q⟩
theorem walk_zipT {n : Nat} (h1 : n = xs.length) (h2 : n = ys.length) : Walk (RZ.ItzT K a b) n (fun H => SqT K H a xs ∧ SqT K H b ys) (YPair (fun i => xs[i]?) (fun i => ys[i]?)) := by
  refine ⟨fun i _ hi q => ?_, fun _ q => ⟨xs, ys, q.1, q.2, Or.inl (by omega)⟩, fun i H v H' _ q y => ?_⟩
  · have h1 : i < xs.length := by omega
    have h2 : i < ys.length := by omega
    exact ⟨xs, ys, xs[i], ys[i], q.1, q.2, by simp [h1], by simp [h2]⟩
  · obtain ⟨T, x, z, h1, h2, h3, h4, h5⟩ := y
    exact ⟨T, x, z, h1, h2, h3, h4 xs q.1, h5 ys q.2⟩
theorem walk_zipM {n : Nat} (h1 : n = xs.length) (h2 : n = ys.length) : Walk (ItzM K a b) n (fun H => SqT K H a xs ∧ SqL K H b ys) (YPair (fun i => xs[i]?) (fun i => ys[i]?)) := by
  refine ⟨fun i _ hi q => ?_, fun _ q => ⟨xs, ys, q.1, q.2, by omega, by omega, by omega⟩, fun i H v H' _ q y => ?_⟩
  · have h1 : i < xs.length := by omega
    have h2 : i < ys.length := by omega
    exact ⟨xs, ys, xs[i], ys[i], q.1, q.2, by simp [h1], by simp [h2]⟩
  · obtain ⟨T, x, z, h1, h2, h3, h4, h5⟩ := y
    exact ⟨T, x, z, h1, h2, h3, h4 xs q.1, h5 ys q.2⟩
end
/-! ### what is walked, while all that is tracked stands -/
def EvI (wi : TI) (σ : L2.St) (H : Hp) (n : Nat) (Y : Nat → Hp → V → Hp → Prop) : Prop := ∀ H1, Ex H H1 → ∀ R : It → Hp → Prop, (∀ J H2 (G : Hp → Prop), Ex H1 H2 → Walk J n G Y → (∀ H3, Ex H2 H3 → G H3) → R J H2) → wi σ H1 R
section
variable {K : PySem.W.Frag} {σ : L2.St} {H H' : Hp} {ta tb te tx td ty tl : TE} {t u tt : TT} {x y z v : V} {tr : TA} {D : Ends} {tz : TS} {wi : TI} {g : TG} {n : Nat} {Y : Nat → Hp → V → Hp → Prop} {vs : List Nat}
theorem EvI.mono (e : Ex H H') (h : EvI wi σ H n Y) : EvI wi σ H' n Y := fun H1 a R q => h H1 (e.trans a) R q
theorem ei_tup {xs : List V} (h : EvQ K tl σ H xs) : EvI (iTup K tl) σ H xs.length (YAt xs) := fun H1 e R q => h H1 e _ fun p H2 e2 hp => ⟨p, rfl, ⟨xs, hp⟩, q _ H2 _ e2 walk_tup fun H3 e3 => ex_t e3 hp⟩
theorem ei_lst {xs : List V} (h : EvQL K tl σ H xs) : EvI (iList K tl) σ H xs.length (YAt xs) := fun H1 e R q => h H1 e _ fun p H2 e2 hp => ⟨p, rfl, ⟨xs, hp⟩, q _ H2 _ e2 walk_list fun H3 e3 => ex_l e3 hp⟩
theorem ei_enum {xs : List V} (h : EvQ K tl σ H xs) : EvI (iEnumT K (tCons tl tNil)) σ H xs.length (YPair (fun i => some (.int (i : Nat))) (fun i => xs[i]?)) := fun H1 e R q => h H1 e _ fun p H2 e2 hp => ⟨p, xs, rfl, hp, q _ H2 _ e2 walk_enumT fun H3 e3 => ex_t e3 hp⟩
theorem ei_zipT {xs ys : List V} (h1 : EvQ K ta σ H xs) (h2 : EvQ K tb σ H ys) (hl : xs.length = ys.length) : EvI (RZ.iZipA K (tCons ta (tCons tb tNil))) σ H xs.length (YPair (fun i => xs[i]?) (fun i => ys[i]?)) := fun H1 e R q =>
  h1 H1 e _ fun p H2 e2 hp => h2 H2 (e.trans e2) _ fun p' H3 e3 hp' => ⟨p, p', xs, ys, rfl, Or.inr ⟨ex_t e3 hp, hp', q _ H3 _ (e2.trans e3) (walk_zipT rfl hl) fun H4 e4 => ⟨ex_t (e3.trans e4) hp, ex_t e4 hp'⟩⟩⟩
theorem ei_zipL {xs ys : List V} {n : Nat} (h1 : EvQL K ta σ H xs) (h2 : EvQL K tb σ H ys) (hl : n = min xs.length ys.length) : EvI (RZ.iZipA K (tCons ta (tCons tb tNil))) σ H n (YPair (fun i => xs[i]?) (fun i => ys[i]?)) := fun H1 e R q =>
  h1 H1 e _ fun p H2 e2 hp => h2 H2 (e.trans e2) _ fun p' H3 e3 hp' => ⟨p, p', xs, ys, rfl, Or.inl ⟨ex_l e3 hp, hp', q _ H3 _ (e2.trans e3) (walk_zip hl) fun H4 e4 => ⟨ex_l (e3.trans e4) hp, ex_l e4 hp'⟩⟩⟩
theorem ei_zipM {xs ys : List V} (h1 : EvQ K ta σ H xs) (h2 : EvQL K tb σ H ys) (hl : xs.length = ys.length) : EvI (iZipM K (tCons ta (tCons tb tNil))) σ H xs.length (YPair (fun i => xs[i]?) (fun i => ys[i]?)) := fun H1 e R q =>
  h1 H1 e _ fun p H2 e2 hp => h2 H2 (e.trans e2) _ fun p' H3 e3 hp' => ⟨p, p', xs, ys, rfl, ex_t e3 hp, hp', q _ H3 _ (e2.trans e3) (walk_zipM rfl hl) fun H4 e4 => ⟨ex_t (e3.trans e4) hp, ex_l e4 hp'⟩⟩
theorem ei_range {n : Int} (h : EvA tr σ H [.int n]) (hn : 0 ≤ n ∧ n ≤ 100000) : True := trivial
/-! ### comprehensions -/
def idxs (n : Nat) (f : Nat → Bool) : List Nat := (List.range n).filter f
theorem idxs_yes {n : Nat} {f : Nat → Bool} (h : f n = true) : idxs (n + 1) f = idxs n f ++ [n] := by
  unfold idxs
  rw [List.range_succ, List.filter_append, List.filter_cons_of_pos h]
  rfl
theorem idxs_no {n : Nat} {f : Nat → Bool} (h : f n = false) : idxs (n + 1) f = idxs n f := by
  unfold idxs
  rw [List.range_succ, List.filter_append, List.filter_cons_of_neg (by rw [h]; decide), List.filter_nil, List.append_nil]
theorem idxs_all (n : Nat) : idxs n (fun _ => true) = List.range n := List.filter_eq_self.mpr fun _ _ => rfl
theorem paired_snoc {α β : Type} {F : α → β → Prop} {xs : List α} {ys : List β} {x : α} {y : β} (h : Paired F xs ys) (hy : F x y) : Paired F (xs ++ [x]) (ys ++ [y]) := by
  induction h with
  | nil => exact .cons hy .nil
  | cons h1 _ ih => exact .cons h1 ih
theorem paired_map {w : Nat → V} {is : List Nat} {ys : List V} (h : Paired (fun i y => y = w i) is ys) : ys = is.map w := by
  induction h with
  | nil => rfl
  | cons h1 _ ih => rw [List.map_cons, h1, ih]
theorem paired_len {α β : Type} {F : α → β → Prop} {xs : List α} {ys : List β} (h : Paired F xs ys) : xs.length = ys.length := by
  induction h with
  | nil => rfl
  | cons _ _ ih => rw [List.length_cons, List.length_cons, ih]
theorem paired_at {α β : Type} {F : α → β → Prop} {xs : List α} {ys : List β} (h : Paired F xs ys) : ∀ {i : Nat} {x : α} {y : β}, xs[i]? = some x → ys[i]? = some y → F x y := by
  induction h with
  | nil => intro i x y h1 _; simp at h1
  | cons h1 _ ih =>
    intro i x y e1 e2
    cases i with
    | zero =>
      cases e1
      cases e2
      exact h1
    | succ i => exact ih (by simpa using e1) (by simpa using e2)
/-- a new list whose items P tells -/
def EvG (te : TE) (σ : L2.St) (H : Hp) (is : List Nat) (P : Nat → V → Hp → Prop) : Prop := ∀ H1, Ex H H1 → ∀ Q : VK, (∀ p ys H2, H1 p = none → Ex H1 H2 → H2 p = some (.lst ys) → Paired (fun i y => P i y H2) is ys → Q (.ref p) H2) → te σ H1 Q
theorem el_lcG (h : EvI wi σ H n Y) (hn : n ≤ 40000) (f : Nat → Bool) (P : Nat → V → Hp → Prop) (hP : ∀ i v H1 H2, TX H1 H2 → P i v H1 → P i v H2)
    (hb : ∀ i x H1 H2, Ex H H1 → i < n → Y i H1 x H2 → Ex H1 H2 ∧ ∃ σ2, (∀ R : L2.St → Hp → Prop, R σ2 H2 → g x (wipe σ vs) H2 R) ∧ wipe σ2 vs = wipe σ vs ∧ EvT tt σ2 H2 (f i) ∧ (f i = true → Gv te σ2 H2 (P i))) :
    EvG (tLc wi g tt te vs) σ H (idxs n f) P := fun H0 e Q q => by
  refine h H0 e _ fun J H1 G e1 W hG => fun Dl hD => ?_
  refine lc_it W (fun i H' => ∃ ys, H1 Dl = none ∧ Ex H1 H' ∧ H' Dl = some (.lst ys) ∧ Paired (fun j y => P j y H') (idxs i f) ys) ⟨[], hD, Ex.new hD, upd_same, .nil⟩ (fun i H' _ p => ?_) (fun i x H' H2 hi p hy => ?_) fun H' p => ?_
  · obtain ⟨ys, p1, p2, p3, p4⟩ := p
    exact hG H' p2
  · obtain ⟨ys, p1, p2, p3, p4⟩ := p
    obtain ⟨e2, σ2, b2, b1, b3, b4⟩ := hb i x H' H2 ((e.trans e1).trans p2) hi hy
    refine b2 _ ⟨b1, b3 H2 (Ex.refl H2) _ fun H3 e3 => ?_⟩
    have hl : ys.length ≤ i := by
      rw [← paired_len p4]
      have := List.length_filter_le f (List.range i)
      rw [List.length_range] at this
      exact this
    cases hf : f i with
    | true =>
      rw [if_pos rfl]
      refine b4 hf H3 e3 _ fun y H4 e4 hy4 => ?_
      have e24 := (e2.trans e3).trans e4
      refine ⟨ys, e24 _ _ p3, sz_lt (by omega), ys ++ [y], p1, Ex.mut (p2.trans e24) p1, upd_same, ?_⟩
      rw [idxs_yes hf]
      have tx : TX H4 (upd H4 Dl (.lst (ys ++ [y]))) := TX.updL (e24 _ _ p3)
      exact paired_snoc (L2.Paired.mapP p4 fun j w hw => hP j w _ _ ((TX.of e24).trans tx) hw) (hP i y _ _ tx hy4)
    | false =>
      rw [if_neg (by decide)]
      refine ⟨ys, p1, p2.trans (e2.trans e3), (e2.trans e3) _ _ p3, ?_⟩
      rw [idxs_no hf]
      exact L2.Paired.mapP p4 fun j w hw => hP j w _ _ (TX.of (e2.trans e3)) hw
  · obtain ⟨ys, p1, p2, p3, p4⟩ := p
    exact q Dl ys H' (fresh_back e1 p1) (e1.trans p2) p3 p4
/-- items known -/
theorem el_lcV (w : Nat → V) (f : Nat → Bool) (h : EvI wi σ H n Y) (hn : n ≤ 40000)
    (hb : ∀ i x H1 H2, Ex H H1 → i < n → Y i H1 x H2 → Ex H1 H2 ∧ ∃ σ2, (∀ R : L2.St → Hp → Prop, R σ2 H2 → g x (wipe σ vs) H2 R) ∧ wipe σ2 vs = wipe σ vs ∧ EvT tt σ2 H2 (f i) ∧ (f i = true → Ev te σ2 H2 (w i))) :
    EvL (tLc wi g tt te vs) σ H ((idxs n f).map w) := fun H0 e Q q => by
  refine el_lcG (P := fun i v _ => v = w i) h hn f (fun _ _ _ _ _ h => h) (fun i x H1 H2 e1 hi hy => ?_) H0 e Q fun p ys H2 hp0 e2 hp hpr => ?_
  · obtain ⟨b0, σ2, b1, b2, b3, b4⟩ := hb i x H1 H2 e1 hi hy
    exact ⟨b0, σ2, b1, b2, b3, fun hf => gv_ev (b4 hf)⟩
  · rw [paired_map hpr] at hp
    exact q p H2 hp0 e2 hp
/-! ### targets -/
theorem g_tup2 {T : Addr} {i j : Nat} {R : L2.St → Hp → Prop} (h : H T = some (.tup [x, y])) (r : R ((σ.set i (some x)).set j (some y)) H) : gTup K 2 (gCons (gName i) (gCons (gName j) gNil)) (.ref T) σ H R :=
  ⟨T, [x, y], rfl, st_of h, rfl, x, [y], rfl, y, [], rfl, rfl, r⟩
theorem g_tup3 {T : Addr} {i j l : Nat} {R : L2.St → Hp → Prop} (h : H T = some (.tup [x, y, z])) (r : R (((σ.set i (some x)).set j (some y)).set l (some z)) H) : gTup K 3 (gCons (gName i) (gCons (gName j) (gCons (gName l) gNil))) (.ref T) σ H R :=
  ⟨T, [x, y, z], rfl, st_of h, rfl, x, [y, z], rfl, y, [z], rfl, z, [], rfl, rfl, r⟩
/-! ### dict comprehensions -/
theorem dc_it {J : It} {G : Hp → Prop} (W : Walk J n G Y) {tk tv : TE} {H1 : Hp} {Dd : Addr} {Qd : Hp → Prop} (Pv : Nat → Hp → Prop) (h0 : Pv 0 (upd H1 Dd (.dK []))) (hG : ∀ i H, i ≤ n → Pv i H → G H)
    (hs : ∀ i x H H', i < n → Pv i H → Y i H x H' → g x (wipe σ vs) H' fun σ2 H2 => wipe σ2 vs = wipe σ vs ∧ tt σ2 H2 fun b H3 =>
      if b = true then tk σ2 H3 fun y H4 => tv σ2 H4 fun z H5 => ∃ kvs k, y = kV k ∧ H5 Dd = some (.dK kvs) ∧ kvs.length < sizeLine ∧ Pv (i + 1) (upd H5 Dd (.dK (putK kvs k z))) else Pv (i + 1) H3) (hd : ∀ H, Pv n H → Qd H) :
    ∃ W : Nat → Nat → Hp → Prop, (∃ m, W 0 m (upd H1 Dd (.dK []))) ∧ ∀ i m H, W i m H →
      (J.stop i H ∧ Qd H) ∨ (J.go i H ∧ ∃ Nx : Hp → Prop, (∀ H', Nx H' → ∃ m', m' < m ∧ W (i + 1) m' H') ∧ ∀ x H', J.yld i H x H' → g x (wipe σ vs) H' fun σ2 H2 => wipe σ2 vs = wipe σ vs ∧ tt σ2 H2 fun b H3 =>
        if b = true then tk σ2 H3 fun y H4 => tv σ2 H4 fun z H5 => ∃ kvs k, y = kV k ∧ H5 Dd = some (.dK kvs) ∧ kvs.length < sizeLine ∧ Nx (upd H5 Dd (.dK (putK kvs k z))) else Nx H3) := by
  refine ⟨fun i m H => m = n - i ∧ i ≤ n ∧ Pv i H, ⟨n, by simp, Nat.zero_le _, h0⟩, ?_⟩
  rintro i m H ⟨rfl, hi, p⟩
  have q := hG i H hi p
  by_cases hlt : i < n
  · exact .inr ⟨W.goes i H hlt q, Pv (i + 1), fun H' p' => ⟨n - (i + 1), by omega, rfl, hlt, p'⟩, fun x H' y => hs i x H H' hlt p (W.yields i H x H' hlt q y)⟩
  · have e : i = n := by omega
    subst e
    exact .inl ⟨W.stops H q, hd H p⟩
theorem mergeK_snoc (acc kvs : List (Key × V)) (k : Key) (v : V) : mergeK acc (kvs ++ [(k, v)]) = putK (mergeK acc kvs) k v := by
  unfold mergeK
  rw [List.foldl_append]
  rfl
theorem ed_dcV {tk tv : TE} (ks : Nat → Key) (w : Nat → V) (h : EvI wi σ H n Y) (hn : n ≤ 1000)
    (hb : ∀ i x H1 H2, Ex H H1 → i < n → Y i H1 x H2 → Ex H1 H2 ∧ ∃ σ2, (∀ R : L2.St → Hp → Prop, R σ2 H2 → g x (wipe σ vs) H2 R) ∧ wipe σ2 vs = wipe σ vs ∧ Ev tk σ2 H2 (kV (ks i)) ∧ Ev tv σ2 H2 (w i)) :
    EvD (tDc wi g tYes tk tv vs) σ H (mergeK [] ((List.range n).map fun i => (ks i, w i))) := fun H0 e Q q => by
  refine h H0 e _ fun J H1 G e1 W hG => fun Dd hD => ?_
  refine dc_it W (fun i H' => H1 Dd = none ∧ Ex H1 H' ∧ H' Dd = some (.dK (mergeK [] ((List.range i).map fun i => (ks i, w i))))) ⟨hD, Ex.new hD, upd_same⟩ (fun i H' _ p => hG H' p.2.1) (fun i x H' H2 hi p hy => ?_) fun H' p => q Dd H' (fresh_back e1 p.1) (e1.trans p.2.1) p.2.2
  obtain ⟨p1, p2, p3⟩ := p
  obtain ⟨e2, σ2, b2, b1, b3, b4⟩ := hb i x H' H2 ((e.trans e1).trans p2) hi hy
  refine b2 _ ⟨b1, et_yes (σ := σ2) (H := H2) H2 (Ex.refl _) _ fun H3 e3 => ?_⟩
  rw [if_pos rfl]
  refine b3 H3 e3 _ fun H4 e4 => b4 H4 (e3.trans e4) _ fun H5 e5 => ?_
  have e25 := e2.trans (e3.trans (e4.trans e5))
  have hl : (mergeK [] ((List.range i).map fun i => (ks i, w i))).length < sizeLine := by
    have h1 := length_mergeK ((List.range i).map fun i => (ks i, w i)) []
    rw [List.length_map, List.length_range, List.length_nil, Nat.zero_add] at h1
    exact small1000 (by omega)
  refine ⟨_, ks i, rfl, e25 _ _ p3, hl, p1, Ex.mut (p2.trans e25) p1, ?_⟩
  rw [upd_same, List.range_succ, List.map_append, List.map_cons, List.map_nil, mergeK_snoc]
/-! ### all(..), d.get(k, x), new tuples -/
theorem ev_allB {bs : List Bool} {xs : List V} (ha : EvL ta σ H xs) (hx : xs = bs.map V.bl) : Ev (tCB (rAll K) (tCons ta tNil)) σ H (.bl (bs.all id)) := fun H1 e Q q => by
  refine ha H1 e _ fun p H2 _ e2 hp => ?_
  exact ⟨p, bs, rfl, sq_of (by rw [← hx]; exact hp), q H2 e2⟩
theorem ev_get2 {k : Key} {Dd : Addr} {kvs : List (Key × V)} (hd : Ev td σ H (.ref Dd)) (hk : Ev ty σ H (kV k)) (hx : Ev tx σ H z) (hD : H Dd = some (.dK kvs)) : Ev (tDGet2 td ty tx) σ H ((valV kvs k).getD z) := fun H1 e Q q => by
  refine hd H1 e _ fun H2 e2 => ⟨Dd, rfl, Or.inl ⟨kvs, Or.inl ((e.trans e2) _ _ hD)⟩, ?_⟩
  refine hk H2 (e.trans e2) _ fun H3 e3 => hx H3 ((e.trans e2).trans e3) _ fun H4 e4 => ?_
  exact ⟨valV kvs k, DGet.k ((((e.trans e2).trans e3).trans e4) _ _ hD), q H4 ((e2.trans e3).trans e4)⟩
theorem gv_tup3 {tc : TE} (ha : Ev ta σ H x) (hb : Ev tb σ H y) (hc : Ev tc σ H z) : Gv (tTup (tCons ta (tCons tb (tCons tc tNil)))) σ H (fun v H2 => ∃ p, v = .ref p ∧ H2 p = some (.tup [x, y, z])) :=
  gv_W (ew_of (eu_tup (ea_cons ha (ea_cons hb (ea_cons hc ea_nil))) (by show 3 ≤ 100000; omega)))
/-! ### slices of tuples -/
theorem cut_nat (xs : List V) (n : Nat) : cutV xs none (some (n : Int)) = xs.take n := cut_front xs n
theorem eq_slA {a : Addr} {xs : List V} {n : Nat} (h : Ev te σ H (.ref a)) (hx : SqT K H a xs) (hn : Ev tb σ H (.int (n : Int))) : EvQ K (tSl (rSlA K) te tNoPart (tPart tb)) σ H (xs.take n) := fun H1 e Q q => by
  refine h H1 e _ fun H2 e2 => ?_
  refine eo_none (σ := σ) (H := H) H2 (e.trans e2) _ fun H3 e3 => ?_
  refine eo_some hn H3 ((e.trans e2).trans e3) _ fun H4 e4 => ?_
  have e14 := (e2.trans e3).trans e4
  refine ⟨a, xs, rfl, ex_t (e.trans e14) hx, fun hw => ?_, fun hw p hp => ?_⟩
  · have h2 : min n xs.length = xs.length := by
      have := hw.2
      rw [HT.sIx_nat] at this
      exact this
    have : xs.take n = xs := List.take_of_length_le (by omega)
    rw [this] at q
    exact q a H4 e14 (ex_t (e.trans e14) hx)
  · refine q p _ (e14.trans (Ex.new hp)) ?_
    rw [← cut_nat]
    exact st_of upd_same
end
end NQ
namespace NQ
open PySem PySem.Spec PyProof.Rows L2 Evl
open KQ (Row)
/-- a def that answers True where Pre holds -/
abbrev spB (Pre : List V → Hp → Prop) : Sp := spR Pre (fun _ v _ => v = .bl true)
/-- a def that answers None where Pre holds -/
abbrev spN (Pre : List V → Hp → Prop) : Sp := spR Pre (fun _ v _ => v = .non)
/-! ### queues in the heap -/
def PairH (H : Hp) (p : Addr) (x : Str × Int) : Prop := H p = some (.tup [.str x.1, .int x.2])
def PayH (H : Hp) (q : Addr) (xs : List (Str × Int)) : Prop := ∃ ps : List Addr, H q = some (.tup (ps.map V.ref)) ∧ Paired (PairH H) ps xs
def RowH (H : Hp) (p : Addr) (r : Row Str) : Prop := ∃ q, H p = some (.tup [.str r.1, .int r.2.1, .ref q]) ∧ PayH H q r.2.2
def RowsH (H : Hp) (b : Addr) (qs : List (Row Str)) : Prop := ∃ ps : List Addr, H b = some (.tup (ps.map V.ref)) ∧ Paired (RowH H) ps qs
def QH (H : Hp) (a : Addr) (qs : List (Row Str)) : Prop := ∃ b, H a = some (.tup [.str "queues", .ref b]) ∧ RowsH H b qs
section
variable {H H' : Hp} {a b p q : Addr} {x : Str × Int} {xs : List (Str × Int)} {r : Row Str} {qs : List (Row Str)}
theorem PairH.tx (e : TX H H') (h : PairH H p x) : PairH H' p x := e _ _ h
theorem PayH.tx (e : TX H H') (h : PayH H q xs) : PayH H' q xs := by
  obtain ⟨ps, h1, h2⟩ := h
  exact ⟨ps, e _ _ h1, L2.Paired.mapP h2 fun _ _ z => z.tx e⟩
theorem RowH.tx (e : TX H H') (h : RowH H p r) : RowH H' p r := by
  obtain ⟨q, h1, h2⟩ := h
  exact ⟨q, e _ _ h1, h2.tx e⟩
theorem RowsH.tx (e : TX H H') (h : RowsH H b qs) : RowsH H' b qs := by
  obtain ⟨ps, h1, h2⟩ := h
  exact ⟨ps, e _ _ h1, L2.Paired.mapP h2 fun _ _ z => z.tx e⟩
theorem QH.tx (e : TX H H') (h : QH H a qs) : QH H' a qs := by
  obtain ⟨b, h1, h2⟩ := h
  exact ⟨b, e _ _ h1, h2.tx e⟩
theorem RowsH.at {ps : List Addr} (h : Paired (RowH H) ps qs) {i : Nat} {v : V} (hv : (ps.map V.ref)[i]? = some v) : ∃ p r, v = .ref p ∧ ps[i]? = some p ∧ qs[i]? = some r ∧ RowH H p r := by
  obtain ⟨p, hp, rfl⟩ := map_at hv
  have hl := paired_len h
  obtain ⟨r, hr⟩ := get_of (l := qs) (i := i) rfl (by
    have := (List.getElem?_eq_some_iff.mp hp).1
    omega)
  exact ⟨p, r, rfl, hp, hr, paired_at h hp hr⟩
theorem PayH.at {ps : List Addr} (h : Paired (PairH H) ps xs) {i : Nat} {v : V} (hv : (ps.map V.ref)[i]? = some v) : ∃ p x, v = .ref p ∧ ps[i]? = some p ∧ xs[i]? = some x ∧ H p = some (.tup [.str x.1, .int x.2]) := by
  obtain ⟨p, hp, rfl⟩ := map_at hv
  have hl := paired_len h
  obtain ⟨r, hr⟩ := get_of (l := xs) (i := i) rfl (by
    have := (List.getElem?_eq_some_iff.mp hp).1
    omega)
  exact ⟨p, r, rfl, hp, hr, paired_at h hp hr⟩
end
/-- a good name -/
structure GoodN (x : Str) : Prop where
  l1 : 1 ≤ x.length
  l8 : x.length ≤ 8
  nk : inV (.str x) (keptL.map V.str) = false
  le : ∀ c ∈ x.cps.toList, c ∈ lettersS.cps.toList
structure GoodP (h : Str) (ns : List Str) (xs : List (Str × Int)) : Prop where
  len : xs.length ≤ 60
  ne : ∀ x ∈ xs, x.1 ≠ h
  mem : ∀ x ∈ xs, x.1 ∈ ns
  lo : ∀ x ∈ xs, 1 ≤ x.2
  hi : ∀ x ∈ xs, x.2 ≤ 1000000
abbrev names (qs : List (Row Str)) : List Str := qs.map fun r => r.1
structure GoodQ (qs : List (Row Str)) : Prop where
  l1 : 1 ≤ qs.length
  l40 : qs.length ≤ 40
  asc : AscS (names qs)
  nm : ∀ r ∈ qs, GoodN r.1
  c0 : ∀ r ∈ qs, 0 ≤ r.2.1
  cM : ∀ r ∈ qs, r.2.1 ≤ 1000000
  pay : ∀ r ∈ qs, GoodP r.1 (names qs) r.2.2
structure WellQ (qs : List (Row Str)) : Prop where
  l1 : 1 ≤ qs.length
  l40 : qs.length ≤ 40
  nd : (names qs).Nodup
  pos : ∀ r ∈ qs, ∀ x ∈ r.2.2, 1 ≤ x.2
  len : ∀ r ∈ qs, r.2.2.length ≤ 60
  mem : ∀ r ∈ qs, ∀ x ∈ r.2.2, x.1 ∈ names qs
  ok : ∀ r ∈ qs, PyData.strOk r.1 = true
theorem WellQ.good {qs : List (Row Str)} (W : WellQ qs) : KQ.Good qs := ⟨W.nd, W.pos⟩
theorem letters_lt : ∀ c ∈ lettersS.cps.toList, c < 0x110000 := fun c hc => by
  have h : lettersS.cps.toList.all (fun c => decide (c < 0x110000)) = true := by decide +kernel
  exact of_decide_eq_true (List.all_eq_true.mp h c hc)
theorem GoodN.ok {x : Str} (g : GoodN x) : PyData.strOk x = true := by
  unfold PyData.strOk
  rw [← Array.all_toList, List.all_eq_true]
  exact fun c hc => decide_eq_true (letters_lt c (g.le c hc))
theorem GoodQ.well {qs : List (Row Str)} (G : GoodQ qs) : WellQ qs := ⟨G.l1, G.l40, asc_nodup G.asc, fun r hr => (G.pay r hr).lo, fun r hr => (G.pay r hr).len, fun r hr => (G.pay r hr).mem, fun r hr => (G.nm r hr).ok⟩
theorem GoodQ.good {qs : List (Row Str)} (G : GoodQ qs) : KQ.Good qs := ⟨asc_nodup G.asc, fun r hr x hx => (G.pay r hr).lo x hx⟩
/-! ### is_name .. check_queues -/
def PreName : List V → Hp → Prop := fun vs _ => ∃ x, vs = [.str x] ∧ GoodN x
def PreInt : List V → Hp → Prop := fun vs _ => ∃ i lo hi, vs = [.int i, .int lo, .int hi] ∧ lo ≤ i ∧ i ≤ hi
def PrePays : List V → Hp → Prop := fun vs H => ∃ q h l ns xs, vs = [.ref q, .str h, .ref l] ∧ PayH H q xs ∧ H l = some (.lst (ns.map V.str)) ∧ GoodP h ns xs
def PreRow : List V → Hp → Prop := fun vs H => ∃ p r, vs = [.ref p] ∧ RowH H p r ∧ GoodN r.1 ∧ 0 ≤ r.2.1 ∧ r.2.1 ≤ 1000000
def PreQ : List V → Hp → Prop := fun vs H => ∃ a qs, vs = [.ref a] ∧ QH H a qs ∧ GoodQ qs
theorem all_flat : ∀ zs : List Str, (zs.map V.str).all flatV = true := fun zs => by
  rw [List.all_eq_true]
  intro v hv
  obtain ⟨z, _, rfl⟩ := List.mem_map.mp hv
  rfl
theorem inV_strs (z : Str) (zs : List Str) : inV (.str z) (zs.map V.str) = decide (z ∈ zs) := by
  unfold inV
  rw [List.any_map]
  by_cases h : z ∈ zs
  · rw [decide_eq_true h]
    exact List.any_eq_true.mpr ⟨z, h, by show (z == z) = true; simp⟩
  · rw [decide_eq_false h]
    refine List.any_eq_false.mpr fun n hn => ?_
    show ¬ (n == z) = true
    intro e
    have := eq_of_beq e
    subst this
    exact h hn
section
variable {K : PySem.W.Frag} {σ : L2.St} {H H' : Hp} {ta tb tc te tx td ty : TE} {t u : TT} {x y z v : V} {tr : TA} {D : Ends} {tz : TS}
theorem ev_eqV {x y : V} (hs : scal x y = true) (ha : Ev ta σ H x) (hb : Ev tb σ H y) : Ev (tOp rEq ta tb) σ H (.bl (decide (x = y))) := ev_op ha hb (rv_eq hs)
/-- lo <= i <= hi -/
theorem ev_chain {lo i hi : Int} (ha : Ev ta σ H (.int lo)) (hb : Ev tb σ H (.int i)) (hc : Ev tc σ H (.int hi)) (h1 : lo ≤ i) (h2 : i ≤ hi) : Ev (tChain (rI0 fun i j => .bl (decide (i ≤ j))) (rI0 fun i j => .bl (decide (i ≤ j))) ta tb tc) σ H (.bl true) := fun H1 e Q q => by
  refine ha H1 e _ fun H2 e2 => hb H2 (e.trans e2) _ fun H3 e3 => ?_
  refine ⟨lo, i, rfl, rfl, true, by show V.bl (decide (lo ≤ i)) = _; rw [decide_eq_true h1], ?_⟩
  rw [if_pos rfl]
  refine hc H3 ((e.trans e2).trans e3) _ fun H4 e4 => ⟨i, hi, rfl, rfl, ?_⟩
  show Q (V.bl (decide (i ≤ hi))) H4
  rw [decide_eq_true h2]
  exact q H4 ((e2.trans e3).trans e4)
end
section
variable {P : Program} {w : World} {K : PySem.W.Frag} {mg : Str → Option Value} {base : Heap} {f : Addr} {fd : FuncData} {aK : Addr} {tk : Tk}
theorem ok_is_name (F : Fun K "is_name" "is_name" s_is_name f fd) (T : Tx K mg aK tk) : FnOk P w K mg base CX0 1 f fd ["thing"] (spB PreName) := by
  refine F.ok sc_is_name (fun vs H Q E h => ?_) (fun cdv A outer s H vs Q E hr h => ?_)
  · obtain ⟨⟨x, rfl, _⟩, _⟩ := h
    rfl
  · obtain ⟨⟨x, rfl, g⟩, q⟩ := h
    have hu := hu_of hr
    refine ⟨_, (pss_cons (ps_if (PW.pt (pw_or (pt_not (pt_val (pe_callB (crIsi (K := K) rfl) (by rfl) T.isinstance (by decide +kernel) (pa_cons (pv 0) (pa_cons (pe_bltn (v := .ty "str") (by rfl) T.str (by decide +kernel) rfl) pa_nil))))) (pw_or (pt_cmpR op_lt (pe_callB call_len_str (by rfl) T.len (by decide +kernel) (pa_cons (pv 0) pa_nil)) pe_int (nomark _)) (pw_or (pt_cmpR op_gt (pe_callB call_len_str (by rfl) T.len (by decide +kernel) (pa_cons (pv 0) pa_nil)) pe_int (nomark _)) (pw_or1 (pt_cmpR (opInS (K := K) rfl) (pv 0) (pe_glob (by rfl) T.g_KEPT T.r_KEPT) (by rfl)))))))
        (pss_one (ps_ret pe_bl))
        pss_nil)
      (pss_one (ps_ret (pe_callB (crAll (K := K) rfl rfl) (by rfl) T.all (by decide +kernel) (pa_cons (pe_lc (own := [("sign", 1)]) rfl sc_is_name.nd (pi_str (pv 0)) (blkOk_by (own := [("sign", 1)]) (N := N_is_name) (sc := defScope s_is_name) (by decide +kernel)) (fun _ _ _ _ _ => (pg_name (i := 1) sc_is_name.nd rfl (Or.inl rfl))) (fun _ _ _ _ _ => pts_nil) (fun _ _ _ _ _ => (pe_cmpR op_in_sign (pv 1) (pe_glob (by rfl) T.g_LETTERS T.r_LETTERS) (by rfl)))) pa_nil))))), ?_⟩
    have g1 := g.l1
    have g8 := g.l8
    refine q_when (b := false) (et_is (et_or (et_not (et_B (ev_isi (ev_var rfl) ev_c (ClsV.ty _) (fun _ _ => .base (.str x)) (kit_ty (b := "str") (r := true) (by decide +kernel))))) fun _ =>
      et_or (et_test (ev_op (ev_lenS (ev_var rfl) (by omega)) ev_c rv_I0)) fun _ => et_or (et_test (ev_op (ev_lenS (ev_var rfl) (by omega)) ev_c rv_I0)) fun _ =>
      et_test (ev_op (ev_var rfl) ev_c (rv_isT (T.s_KEPT _) rfl (by decide)))) ?_) (fun z => by cases z) (fun _ H1 e1 => ?_)
    · rw [g.nk, decide_eq_false (by omega), decide_eq_false (by omega)]
      rfl
    · refine s_ret (v := .bl true) (ev_allT (el_lcS (fun _ => true) (fun _ => .bl true) (ev_var rfl) (by have : x.cps.size ≤ 8 := g8; omega) (fun _ => rfl) (fun _ _ _ _ _ => et_yes)
        (fun i c H2 e2 hc _ => ev_is (ev_op (ev_var rfl) ev_c rv_inC) ?_))) (fun H2 e2 => q _ _ (e1.trans e2) rfl)
      have hm : c ∈ x.cps.toList := by
        rw [← Array.getElem?_toList] at hc
        exact List.mem_of_getElem? hc
      rw [decide_eq_true (g.le c hm)]
theorem ok_is_integer (F : Fun K "is_integer" "is_integer" s_is_integer f fd) (T : Tx K mg aK tk) : FnOk P w K mg base CX0 1 f fd ["thing", "low", "high"] (spB PreInt) := by
  refine F.ok sc_is_integer (fun vs H Q E h => ?_) (fun cdv A outer s H vs Q E hr h => ?_)
  · obtain ⟨⟨i, lo, hi, rfl, _⟩, _⟩ := h
    rfl
  · obtain ⟨⟨i, lo, hi, rfl, h1, h2⟩, q⟩ := h
    have hu := hu_of hr
    refine ⟨_, (pss_one (ps_ret (pe_and (pe_callB (crIsi (K := K) rfl) (by rfl) T.isinstance (by decide +kernel) (pa_cons (pv 0) (pa_cons (pe_bltn (v := .ty "int") (by rfl) T.int (by decide +kernel) rfl) pa_nil))) (pe_and (pe_not (pe_callB (crIsi (K := K) rfl) (by rfl) T.isinstance (by decide +kernel) (pa_cons (pv 0) (pa_cons (pe_bltn (v := .ty "bool") (by rfl) T.bool (by decide +kernel) rfl) pa_nil)))) (pe_one (pe_chain op_le op_le (pv 1) (pv 0) (pv 2))))))), ?_⟩
    exact s_ret (v := .bl true) (ev_is (ev_andV (a := true) (b := true) (ev_isi (ev_var rfl) ev_c (ClsV.ty _) (fun _ _ => .base (.int i)) (kit_ty (b := "int") (r := true) (by decide +kernel))) fun _ =>
      ev_is (ev_andV (a := true) (b := true) (ev_is (ev_notV (a := false) (ev_isi (ev_var rfl) ev_c (ClsV.ty _) (fun _ _ => .base (.int i)) (kit_ty (b := "bool") (r := false) (by decide +kernel)))) rfl) fun _ => ev_chain (ev_var rfl) (ev_var rfl) (ev_var rfl) h1 h2) rfl) rfl) (fun H2 e2 => q _ _ e2 rfl)
theorem ok_are_payments (F : Fun K "are_payments" "are_payments" s_are_payments f fd) (T : Tx K mg aK tk) (c_is_integer : Cal P w K mg base CX0 1 "is_integer" ["thing", "low", "high"] (spB PreInt)) : FnOk P w K mg base CX0 2 f fd ["thing", "house", "names"] (spB PrePays) := by
  refine F.ok sc_are_payments (fun vs H Q E h => ?_) (fun cdv A outer s H vs Q E hr h => ?_)
  · obtain ⟨⟨q, hh, l, ns, xs, rfl, _⟩, _⟩ := h
    rfl
  · obtain ⟨⟨q, hh, l, ns, xs, rfl, hq, hl, g⟩, k⟩ := h
    have hu := hu_of hr
    refine ⟨_, (pss_cons (ps_if (PW.pt (pw_or (pt_not (pt_val (pe_callB (crIsi (K := K) rfl) (by rfl) T.isinstance (by decide +kernel) (pa_cons (pv 0) (pa_cons (pe_bltn (v := .ty "tuple") (by rfl) T.tuple (by decide +kernel) rfl) pa_nil))))) (pw_or1 (pt_cmpR op_gt (pe_callB (crLen (K := K) rfl) (by rfl) T.len (by decide +kernel) (pa_cons (pv 0) pa_nil)) (pe_glob (by rfl) T.g_MOST_PAYMENTS T.r_MOST_PAYMENTS) (nomark _)))))
        (pss_one (ps_ret pe_bl))
        pss_nil)
      (pss_cons (ps_for PassesOwn.never rfl (piTup (K := K) rfl (pv 0)) (pg_name (i := 3) sc_are_payments.nd rfl (Or.inl rfl))
        (pss_cons (ps_if (PW.pt (pw_or (pt_not (pt_val (pe_callB (crIsi (K := K) rfl) (by rfl) T.isinstance (by decide +kernel) (pa_cons (pv 3) (pa_cons (pe_bltn (v := .ty "tuple") (by rfl) T.tuple (by decide +kernel) rfl) pa_nil))))) (pw_or (pt_cmpR op_ne (pe_callB (crLen (K := K) rfl) (by rfl) T.len (by decide +kernel) (pa_cons (pv 3) pa_nil)) pe_int (nomark _)) (pw_or1 (pt_not (pt_val (pe_callB (crIsi (K := K) rfl) (by rfl) T.isinstance (by decide +kernel) (pa_cons (pe_ix (ixT (K := K) rfl) (pv 3) pe_int (fun _ _ => rfl)) (pa_cons (pe_bltn (v := .ty "str") (by rfl) T.str (by decide +kernel) rfl) pa_nil)))))))))
        (pss_one (ps_ret pe_bl))
        pss_nil)
      (pss_one (ps_if (PW.pt (pw_or (pt_cmpR op_eq (pe_ix (ixT (K := K) rfl) (pv 3) pe_int (fun _ _ => rfl)) (pv 1) (nomark _)) (pw_or (pt_cmpR (opNotInS (K := K) rfl) (pe_ix (ixT (K := K) rfl) (pv 3) pe_int (fun _ _ => rfl)) (pv 2) (by rfl)) (pw_or1 (pt_not (pt_val (pe_cl c_is_integer hr (by decide) (by rfl) (pa_cons (pe_ix (ixT (K := K) rfl) (pv 3) pe_int (fun _ _ => rfl)) (pa_cons pe_int (pa_cons (pe_glob (by rfl) T.g_MOST_CASH T.r_MOST_CASH) pa_nil))))))))))
        (pss_one (ps_ret pe_bl))
        pss_nil))))
      (pss_one (ps_ret pe_bl)))), ?_⟩
    have g60 := g.len
    obtain ⟨ps, hps, hpr⟩ := id hq
    have hlen : (ps.map V.ref).length = xs.length := by rw [List.length_map, paired_len hpr]
    refine q_when (b := false) (et_is (et_or (et_not (et_B (ev_isi (ev_var rfl) ev_c (ClsV.ty _) (fun H1 e1 => .base (.tup (e1 _ _ hps))) (kit_ty (b := "tuple") (r := true) (by decide +kernel))))) fun _ =>
      et_test (ev_op (ev_lenT (ev_var rfl) (st_of hps)) ev_c rv_I0)) (by rw [hlen, decide_eq_false (by omega)]; rfl)) (fun z => by cases z) (fun _ H1 e1 => ?_)
    refine q_forQ (eq_ev (ev_var rfl) (st_of (e1 _ _ hps))) (fun i σ' H' => ∃ y3 : Option V, σ' = [some (.ref q), some (.str hh), some (.ref l), y3]) (fun H2 _ => ⟨none, rfl⟩) (fun i x σ' H2 H' N e2 hx e3 hP kk => ?_) (fun σ' H' e2 hP => ?_)
    · obtain ⟨y3, rfl⟩ := hP
      have e := e1.trans (e2.trans e3)
      obtain ⟨p, y, rfl, _, hy, hp⟩ := PayH.at hpr hx
      have hp' := e _ _ hp
      have hm := List.mem_of_getElem? hy
      have ix0 : ∀ {H5 : Hp}, Ex H' H5 → Ev (tOp (rIxT K) (tVar 3) (tC (.int 0))) [some (.ref q), some (.str hh), some (.ref l), some (.ref p)] H5 (.str y.1) := fun e5 => ev_op (ev_var rfl) ev_c (rv_ixT (st_of (e5 _ _ hp')) (at_of (j := 0) rfl rfl))
      refine q_when (σ := [some (.ref q), some (.str hh), some (.ref l), some (.ref p)]) (b := false) (et_is (et_or (et_not (et_B (ev_isi (ev_var rfl) ev_c (ClsV.ty _) (fun H5 e5 => .base (.tup (e5 _ _ hp'))) (kit_ty (b := "tuple") (r := true) (by decide +kernel))))) fun _ =>
        et_or (et_test (ev_op (ev_lenT (ev_var rfl) (st_of hp')) ev_c (rv_ne rfl))) fun _ => et_not (et_B (ev_isi (ix0 (Ex.refl H')) ev_c (ClsV.ty _) (fun _ _ => .base (.str y.1)) (kit_ty (b := "str") (r := true) (by decide +kernel))))) rfl) (fun z => by cases z) (fun _ H5 e5 => ?_)
      refine s_when (σ := [some (.ref q), some (.str hh), some (.ref l), some (.ref p)]) (b := false) (et_is (et_or (et_test (ev_op (ix0 e5) (ev_var rfl) (rv_eq rfl))) fun _ => et_or (et_test (ev_op (ix0 e5) (ev_var rfl) (rv_niL (sq_of ((e.trans e5) _ _ hl)) rfl (all_flat ns)))) fun _ =>
        et_not (et_B (ev_callB (ea_cons (ev_op (ev_var rfl) ev_c (rv_ixT (st_of (e5 _ _ hp')) (at_of (j := 1) rfl rfl))) (ea_cons ev_c (ea_cons ev_c ea_nil))) fun _ _ => ⟨y.2, 1, 1000000, rfl, g.lo y hm, g.hi y hm⟩))) ?_) (fun z => by cases z) (fun _ H6 e6 => kk _ _ (e5.trans e6) ⟨_, rfl⟩)
      rw [inV_strs, decide_eq_true (g.mem y hm), decide_eq_false fun z => g.ne y hm (V.str.inj z)]
      rfl
    · exact s_ret ev_c fun H2 e3 => k _ _ ((e1.trans e2).trans e3) rfl
theorem ok_is_house_row (F : Fun K "is_house_row" "is_house_row" s_is_house_row f fd) (T : Tx K mg aK tk) (c_is_integer : Cal P w K mg base CX0 1 "is_integer" ["thing", "low", "high"] (spB PreInt)) (c_is_name : Cal P w K mg base CX0 1 "is_name" ["thing"] (spB PreName)) :
    FnOk P w K mg base CX0 2 f fd ["thing"] (spB PreRow) := by
  refine F.ok sc_is_house_row (fun vs H Q E h => ?_) (fun cdv A outer s H vs Q E hr h => ?_)
  · obtain ⟨⟨p, r, rfl, _⟩, _⟩ := h
    rfl
  · obtain ⟨⟨p, r, rfl, ⟨q, hp, hq⟩, gn, c0, cM⟩, k⟩ := h
    have hu := hu_of hr
    refine ⟨_, (pss_one (ps_ret (pe_and (pe_callB (crIsi (K := K) rfl) (by rfl) T.isinstance (by decide +kernel) (pa_cons (pv 0) (pa_cons (pe_bltn (v := .ty "tuple") (by rfl) T.tuple (by decide +kernel) rfl) pa_nil))) (pe_and (pe_cmpR op_eq (pe_callB (crLen (K := K) rfl) (by rfl) T.len (by decide +kernel) (pa_cons (pv 0) pa_nil)) pe_int (nomark _)) (pe_and (pe_cl c_is_name hr (by decide) (by rfl) (pa_cons (pe_ix (ixT (K := K) rfl) (pv 0) pe_int (fun _ _ => rfl)) pa_nil)) (pe_one (pe_cl c_is_integer hr (by decide) (by rfl) (pa_cons (pe_ix (ixT (K := K) rfl) (pv 0) pe_int (fun _ _ => rfl)) (pa_cons pe_int (pa_cons (pe_glob (by rfl) T.g_MOST_CASH T.r_MOST_CASH) pa_nil)))))))))), ?_⟩
    exact s_ret (v := .bl true) (ev_is (ev_andV (a := true) (b := true) (ev_isi (ev_var rfl) ev_c (ClsV.ty _) (fun H1 e1 => .base (.tup (e1 _ _ hp))) (kit_ty (b := "tuple") (r := true) (by decide +kernel))) fun _ =>
      ev_is (ev_andV (a := true) (b := true) (ev_is (ev_eqV rfl (ev_lenT (ev_var rfl) (st_of hp)) ev_c) rfl) fun _ =>
      ev_is (ev_andV (a := true) (b := true) (ev_callB (ea_cons (ev_op (ev_var rfl) ev_c (rv_ixT (st_of hp) (at_of (j := 0) rfl rfl))) ea_nil) fun _ _ => ⟨r.1, rfl, gn⟩) fun _ =>
      ev_callB (ea_cons (ev_op (ev_var rfl) ev_c (rv_ixT (st_of hp) (at_of (j := 1) rfl rfl))) (ea_cons ev_c (ea_cons ev_c ea_nil))) fun _ _ => ⟨r.2.1, 0, 1000000, rfl, c0, cM⟩) rfl) rfl) rfl) (fun H2 e2 => k _ _ e2 rfl)
end
end NQ
namespace NQ
open PySem PySem.Spec PyProof.Rows L2 Evl
open KQ (Row)
abbrev rowD : Row Str := ("", 0, [])
theorem getD_of {α : Type} {xs : List α} {i : Nat} {x d : α} (h : xs[i]? = some x) : xs.getD i d = x := by
  rw [List.getD_eq_getElem?_getD, h]
  rfl
theorem idx_map {α : Type} (d : α) (g : α → V) (xs : List α) {n : Nat} (hn : n = xs.length) : (idxs n (fun _ => true)).map (fun i => g (xs.getD i d)) = xs.map g := by
  subst hn
  rw [idxs_all, map_range_getD]
/-- a state, a list of numbers by the houses -/
def stV (qs : List (Row Str)) (f : Str → Nat) : List V := qs.map fun r => V.int (f r.1 : Nat)
theorem stV_len (qs : List (Row Str)) (f : Str → Nat) : (stV qs f).length = qs.length := List.length_map ..
theorem stV_at {qs : List (Row Str)} {f : Str → Nat} {i : Nat} {r : Row Str} (h : qs[i]? = some r) : (stV qs f)[i]? = some (.int (f r.1 : Nat)) := by
  unfold stV
  rw [List.getElem?_map, h]
  rfl
def StH (H : Hp) (s : Addr) (qs : List (Row Str)) (f : Str → Nat) : Prop := H s = some (.tup (stV qs f))
def PreSt : List V → Hp → Prop := fun vs H => ∃ a s qs f, vs = [.ref a, .ref s] ∧ QH H a qs ∧ WellQ qs ∧ StH H s qs f ∧ KQ.Within qs f
/-- the houses' numbers -/
def numK (qs : List (Row Str)) : List (Key × V) := mergeK [] ((List.range qs.length).map fun i => ((Sum.inr (qs.getD i rowD).1 : Key), V.int (i : Nat)))
theorem numK_at {qs : List (Row Str)} (nd : (names qs).Nodup) {i : Nat} {r : Row Str} (h : qs[i]? = some r) : valV (numK qs) (Sum.inr r.1) = some (.int (i : Nat)) := by
  have hi := (List.getElem?_eq_some_iff.mp h).1
  refine valV_merge_get (i := i) ?_ ?_
  · rw [List.map_map]
    have e : ((fun x : Key × V => x.1) ∘ fun i => ((Sum.inr (qs.getD i rowD).1 : Key), V.int (i : Nat))) = fun i => (Sum.inr (qs.getD i rowD).1 : Key) := rfl
    rw [e, map_range_getD rowD (fun r : Row Str => (Sum.inr r.1 : Key)) qs]
    have e2 : qs.map (fun r => (Sum.inr r.1 : Key)) = (names qs).map (Sum.inr : Str → Key) := by rw [List.map_map]; rfl
    rw [e2]
    exact List.Pairwise.map _ (fun a b hab z => hab (Sum.inr.inj z)) nd
  · rw [List.getElem?_map, List.getElem?_range hi]
    show some ((Sum.inr (qs.getD i rowD).1 : Key), V.int (i : Nat)) = _
    rw [getD_of h]
def spNum : Sp := fun vs H Q _ => ∃ a qs, vs = [.ref a] ∧ QH H a qs ∧ WellQ qs ∧ ∀ d H', H d = none → Ex H H' → H' d = some (.dK (numK qs)) → Q (.ref d) H'
/-- the cash of one house told otherwise -/
def recash (z : Str) (c : Int) (qs : List (Row Str)) : List (Row Str) := qs.map fun r => (r.1, (if r.1 = z then c else r.2.1), r.2.2)
def spRich : Sp := fun vs H Q _ => ∃ a d qs kvs w, vs = [.ref a, .ref d] ∧ QH H a qs ∧ qs.length ≤ 40 ∧ H d = some (.dK kvs) ∧ (∀ r ∈ qs, (valV kvs (Sum.inr r.1)).getD (.int r.2.1) = .int (w r)) ∧ ∀ a' H', Ex H H' → QH H' a' (KQ.mc w qs) → Q (.ref a') H'
theorem rich_one {qs : List (Row Str)} (z : Str) (c : Int) : ∀ r ∈ qs, (valV [((Sum.inr z : Key), V.int c)] (Sum.inr r.1)).getD (.int r.2.1) = .int (if r.1 = z then c else r.2.1) := fun r _ => by
  by_cases h : r.1 = z
  · rw [h, valV_pos rfl, if_pos rfl]
    rfl
  · rw [valV_neg (fun e => h (Sum.inr.inj e).symm), if_neg h]
    rfl
def spEnd : Sp := fun vs H Q _ => ∃ a qs, vs = [.ref a] ∧ QH H a qs ∧ qs.length ≤ 40 ∧ ∀ s H', Ex H H' → H s = none → H' s = some (.tup (qs.map fun r => V.int (r.2.2.length : Nat))) → Q (.ref s) H'
def StA (H : Hp) (s : Addr) (qs : List (Row Str)) (f : Str → Nat) : Prop := H s = some (.lst (stV qs f)) ∨ H s = some (.tup (stV qs f))
theorem StA.ex {H H' : Hp} {s : Addr} {qs : List (Row Str)} {f : Str → Nat} (h : StA H s qs f) (e : Ex H H') : StA H' s qs f := h.elim (fun h => Or.inl (e _ _ h)) fun h => Or.inr (e _ _ h)
def spWith : Sp := fun vs H Q _ => ∃ s l qs f g, vs = [.ref s, .ref l] ∧ StH H s qs f ∧ StA H l qs g ∧ qs.length ≤ 40 ∧ ∀ H', Ex H H' → Q (.bl (qs.all fun r => decide (f r.1 ≤ g r.1))) H'
section
variable {K : PySem.W.Frag} {σ : L2.St} {H H' : Hp} {ta tb tc te tx td ty : TE} {t u : TT} {x y z v : V} {tr : TA} {D : Ends} {tz : TS}
theorem rows_of {H : Hp} {rs : List (Row Str)} {is : List Nat} {ys : List V} (h : Paired (fun i v => ∃ p, v = V.ref p ∧ RowH H p (rs.getD i rowD)) is ys) : ∃ ps : List Addr, ys = ps.map V.ref ∧ Paired (RowH H) ps (is.map fun i => rs.getD i rowD) := by
  induction h with
  | nil => exact ⟨[], rfl, .nil⟩
  | cons h1 _ ih =>
    obtain ⟨p, rfl, hr⟩ := h1
    obtain ⟨ps, e, hp⟩ := ih
    exact ⟨p :: ps, by rw [e]; rfl, .cons hr hp⟩
theorem range_rows (rs : List (Row Str)) : (idxs rs.length (fun _ => true)).map (fun i => rs.getD i rowD) = rs := by
  rw [idxs_all]
  have := map_range_getD rowD (fun r : Row Str => r) rs
  rw [List.map_id'] at this
  exact this
/-- ("queues", tuple of a list of rows) -/
theorem gv_queues {rs : List (Row Str)} {n : Nat} (hn : n = rs.length) (h : EvG te σ H (idxs n (fun _ => true)) (fun i v H => ∃ p, v = .ref p ∧ RowH H p (rs.getD i rowD))) :
    Gv (tTup (tCons (tC (.str "queues")) (tCons (tCB (rTupS K) (tCons te tNil)) tNil))) σ H (fun v H2 => ∃ a, v = .ref a ∧ QH H2 a rs) := fun H1 e Q q => by
  subst hn
  refine h H1 e _ fun p ys H2 hp0 e2 hp hpr => ?_
  refine ⟨p, ys, rfl, Or.inl ⟨sq_of hp, fun l hl => ?_⟩⟩
  refine ⟨by show 2 ≤ sizeLine; decide, fun a ha => ?_⟩
  have x1 : Ex H2 (upd H2 l (.tup ys)) := Ex.new hl
  have x2 : Ex (upd H2 l (.tup ys)) (upd (upd H2 l (.tup ys)) a (.tup [.str "queues", .ref l])) := Ex.new ha
  have e13 := (e2.trans x1).trans x2
  refine q _ _ e13 ⟨a, rfl, l, upd_same, ?_⟩
  have hl2 : (upd (upd H2 l (.tup ys)) a (.tup [.str "queues", .ref l])) l = some (.tup ys) := x2 _ _ upd_same
  obtain ⟨ps, e4, hps⟩ := rows_of hpr
  rw [range_rows] at hps
  subst e4
  have tx : TX H2 (upd (upd H2 l (.tup (ps.map V.ref))) a (.tup [.str "queues", .ref l])) := TX.of (x1.trans x2)
  exact ⟨ps, hl2, L2.Paired.mapP hps fun _ _ z => z.tx tx⟩
end
section
variable {P : Program} {w : World} {K : PySem.W.Frag} {mg : Str → Option Value} {base : Heap} {f : Addr} {fd : FuncData} {aK : Addr} {tk : Tk}
theorem ok_is_queues (F : Fun K "is_queues" "is_queues" s_is_queues f fd) (T : Tx K mg aK tk) (c_are_payments : Cal P w K mg base CX0 2 "are_payments" ["thing", "house", "names"] (spB PrePays)) (c_is_house_row : Cal P w K mg base CX0 2 "is_house_row" ["thing"] (spB PreRow)) :
    FnOk P w K mg base CX0 3 f fd ["value"] (spB PreQ) := by
  refine F.ok sc_is_queues (fun vs H Q E h => ?_) (fun cdv A outer s H vs Q E hr h => ?_)
  · obtain ⟨⟨a, qs, rfl, _⟩, _⟩ := h
    rfl
  · obtain ⟨⟨a, qs, rfl, ⟨b, ha, ps, hb, hpr⟩, g⟩, k⟩ := h
    have hu := hu_of hr
    refine ⟨_, (pss_cons (ps_if (PW.pt (pw_or (pt_not (pt_val (pe_callB (crIsi (K := K) rfl) (by rfl) T.isinstance (by decide +kernel) (pa_cons (pv 0) (pa_cons (pe_bltn (v := .ty "tuple") (by rfl) T.tuple (by decide +kernel) rfl) pa_nil))))) (pw_or (pt_cmpR op_ne (pe_callB (crLen (K := K) rfl) (by rfl) T.len (by decide +kernel) (pa_cons (pv 0) pa_nil)) pe_int (nomark _)) (pw_or (pt_not (pt_val (pe_callB (crIsi (K := K) rfl) (by rfl) T.isinstance (by decide +kernel) (pa_cons (pe_ix (ixT (K := K) rfl) (pv 0) pe_int (fun _ _ => rfl)) (pa_cons (pe_bltn (v := .ty "str") (by rfl) T.str (by decide +kernel) rfl) pa_nil))))) (pw_or1 (pt_cmpR op_ne (pe_ix (ixT (K := K) rfl) (pv 0) pe_int (fun _ _ => rfl)) pe_str (nomark _)))))))
        (pss_one (ps_ret pe_bl))
        pss_nil)
      (pss_cons (ps_set (i := 1) sc_is_queues.nd rfl (Or.inl rfl) (pe_ix (ixT (K := K) rfl) (pv 0) pe_int (fun _ _ => rfl)))
      (pss_cons (ps_if (PW.pt (pw_or (pt_not (pt_val (pe_callB (crIsi (K := K) rfl) (by rfl) T.isinstance (by decide +kernel) (pa_cons (pv 1) (pa_cons (pe_bltn (v := .ty "tuple") (by rfl) T.tuple (by decide +kernel) rfl) pa_nil))))) (pw_or1 (pt_not (pt_chain op_le op_le pe_int (pe_callB (crLen (K := K) rfl) (by rfl) T.len (by decide +kernel) (pa_cons (pv 1) pa_nil)) (pe_glob (by rfl) T.g_MOST_HOUSES T.r_MOST_HOUSES))))))
        (pss_one (ps_ret pe_bl))
        pss_nil)
      (pss_cons (ps_if (pt_not (pt_val (pe_callB (crAll (K := K) rfl rfl) (by rfl) T.all (by decide +kernel) (pa_cons (pe_lc (own := [("part", 2)]) rfl sc_is_queues.nd (piTup (K := K) rfl (pv 1)) (blkOk_by (own := [("part", 2)]) (N := N_is_queues) (sc := defScope s_is_queues) (by decide +kernel)) (fun _ _ _ _ _ => (pg_name (i := 2) sc_is_queues.nd rfl (Or.inl rfl))) (fun _ _ _ _ _ => pts_nil) (fun _ _ _ _ _ => (pe_cl c_is_house_row hr (by decide) (by rfl) (pa_cons (pv 2) pa_nil)))) pa_nil))))
        (pss_one (ps_ret pe_bl))
        pss_nil)
      (pss_cons (ps_set (i := 3) sc_is_queues.nd rfl (Or.inr rfl) (pe_lc (own := [("part", 2)]) rfl sc_is_queues.nd (piTup (K := K) rfl (pv 1)) (blkOk_by (own := [("part", 2)]) (N := N_is_queues) (sc := defScope s_is_queues) (by decide +kernel)) (fun _ _ _ _ _ => (pg_name (i := 2) sc_is_queues.nd rfl (Or.inl rfl))) (fun _ _ _ _ _ => pts_nil) (fun _ _ _ _ _ => (pe_ix (ixT (K := K) rfl) (pv 2) pe_int (fun _ _ => rfl)))))
      (pss_cons (ps_if (pt_not (pt_val (pe_callB (crAll (K := K) rfl rfl) (by rfl) T.all (by decide +kernel) (pa_cons (pe_lc (own := [("one", 4), ("other", 5)]) rfl sc_is_queues.nd (piZipL (K := K) rfl (by rfl) T.zip (pa_cons (pv 3) (pa_cons (pe_slice (slL (K := K) rfl) (pv 3) (po_some pe_int) po_none) pa_nil))) (blkOk_by (own := [("one", 4), ("other", 5)]) (N := N_is_queues) (sc := defScope s_is_queues) (by decide +kernel)) (fun _ _ _ _ _ => (pgTup (K := K) (n := 2) rfl rfl (pgs_cons (pg_name (i := 4) sc_is_queues.nd rfl (Or.inl rfl)) (pgs_cons (pg_name (i := 5) sc_is_queues.nd rfl (Or.inl rfl)) pgs_nil)))) (fun _ _ _ _ _ => pts_nil) (fun _ _ _ _ _ => (pe_cmpR op_lt_str (pv 4) (pv 5) (nomark _)))) pa_nil))))
        (pss_one (ps_ret pe_bl))
        pss_nil)
      (pss_one (ps_ret (pe_callB (crAll (K := K) rfl rfl) (by rfl) T.all (by decide +kernel) (pa_cons (pe_lc (own := [("part", 2)]) rfl sc_is_queues.nd (piTup (K := K) rfl (pv 1)) (blkOk_by (own := [("part", 2)]) (N := N_is_queues) (sc := defScope s_is_queues) (by decide +kernel)) (fun _ _ _ _ _ => (pg_name (i := 2) sc_is_queues.nd rfl (Or.inl rfl))) (fun _ _ _ _ _ => pts_nil) (fun _ _ _ _ _ => (pe_cl c_are_payments hr (by decide) (by rfl) (pa_cons (pe_ix (ixT (K := K) rfl) (pv 2) pe_int (fun _ _ => rfl)) (pa_cons (pe_ix (ixT (K := K) rfl) (pv 2) pe_int (fun _ _ => rfl)) (pa_cons (pv 3) pa_nil)))))) pa_nil)))))))))), ?_⟩
    have g1 := g.l1
    have g40 := g.l40
    have hlen : (ps.map V.ref).length = qs.length := by rw [List.length_map, paired_len hpr]
    have ix0 : Ev (tOp (rIxT K) (tVar 0) (tC (.int 0))) [some (.ref a), none, none, none, none, none] H (.str "queues") := ev_op (ev_var rfl) ev_c (rv_ixT (st_of ha) (at_of (j := 0) rfl rfl))
    refine q_when (b := false) (et_is (et_or (et_not (et_B (ev_isi (ev_var rfl) ev_c (ClsV.ty _) (fun H1 e1 => .base (.tup (e1 _ _ ha))) (kit_ty (b := "tuple") (r := true) (by decide +kernel))))) fun _ =>
      et_or (et_test (ev_op (ev_lenT (ev_var rfl) (st_of ha)) ev_c (rv_ne rfl))) fun _ => et_or (et_not (et_B (ev_isi ix0 ev_c (ClsV.ty _) (fun _ _ => .base (.str "queues")) (kit_ty (b := "str") (r := true) (by decide +kernel))))) fun _ =>
      et_test (ev_op ix0 ev_c (rv_ne rfl))) rfl) (fun z => by cases z) (fun _ H1 e1 => ?_)
    refine q_asg (ev_op (ev_var rfl) ev_c (rv_ixT (st_of (e1 _ _ ha)) (at_of (j := 1) rfl rfl))) fun H2 e2 => ?_
    have e12 := e1.trans e2
    have hb2 := e12 _ _ hb
    refine q_when (σ := [some (.ref a), some (.ref b), none, none, none, none]) (b := false) (et_is (et_or (et_not (et_B (ev_isi (ev_var rfl) ev_c (ClsV.ty _) (fun H1 e1 => .base (.tup (e1 _ _ hb2))) (kit_ty (b := "tuple") (r := true) (by decide +kernel))))) fun _ =>
      et_not (et_test (ev_chain ev_c (ev_lenT (ev_var rfl) (st_of hb2)) ev_c (by rw [hlen]; omega) (by rw [hlen]; omega)))) rfl) (fun z => by cases z) (fun _ H3 e3 => ?_)
    have e13 := e12.trans e3
    refine q_when (σ := [some (.ref a), some (.ref b), none, none, none, none]) (b := false) (et_is (et_not (et_B (ev_allT (el_lcV (fun _ => .bl true) (fun _ => true) (ei_tup (K := K) (eq_ev (ev_var rfl) (st_of (e13 _ _ hb)))) (by rw [hlen]; omega)
      fun i x H4 H5 e4 hi hy => ?_)))) rfl) (fun z => by cases z) (fun _ H4 e4 => ?_)
    · obtain ⟨rfl, hx⟩ := hy
      obtain ⟨p, r, rfl, _, hqr, hrow⟩ := RowsH.at hpr hx
      have hm := List.mem_of_getElem? hqr
      exact ⟨Ex.refl _, _, fun R h => h, rfl, et_yes, fun _ => ev_callB (ea_cons (ev_var rfl) ea_nil) fun H6 e6 => ⟨p, r, rfl, hrow.tx (TX.of (e13.trans (e4.trans e6))), g.nm r hm, g.c0 r hm, g.cM r hm⟩⟩
    have e14 := e13.trans e4
    have wk := el_lcV (te := tOp (rIxT K) (tVar 2) (tC (.int 0))) (tt := tYes) (g := gName 2) (vs := [2]) (σ := [some (.ref a), some (.ref b), none, none, none, none]) (H := H4) (fun i => V.str (qs.getD i rowD).1) (fun _ => true) (ei_tup (K := K) (eq_ev (ev_var (i := 1) rfl) (st_of (e14 _ _ hb)))) (by rw [hlen]; omega)
      fun i x H5 H6 e5 hi hy => by
        obtain ⟨rfl, hx⟩ := hy
        obtain ⟨p, r, rfl, _, hqr, q', hrow, _⟩ := RowsH.at hpr hx
        refine ⟨Ex.refl _, _, fun R h => h, rfl, et_yes, fun _ => ?_⟩
        rw [getD_of hqr]
        exact ev_op (ev_var rfl) ev_c (rv_ixT (st_of ((e14.trans e5) _ _ hrow)) (at_of (j := 0) rfl rfl))
    rw [idx_map rowD (fun r : Row Str => V.str r.1) qs hlen] at wk
    have enm : qs.map (fun r => V.str r.1) = (names qs).map V.str := by rw [List.map_map]; rfl
    rw [enm] at wk
    refine q_asgL wk fun l H5 hl0 e5 hl => ?_
    have e15 := e14.trans e5
    have nl : ((names qs).map V.str).length = qs.length := by rw [List.length_map, List.length_map]
    have wl : EvL (tSl (rSlL K) (tVar 3) (tPart (tC (.int 1))) tNoPart) [some (.ref a), some (.ref b), none, some (.ref l), none, none] H5 (cutV ((names qs).map V.str) (some 1) none) := el_sl (ev_var rfl) (eo_some ev_c) eo_none (sq_of hl)
    rw [cut_rest] at wl
    refine q_when (σ := [some (.ref a), some (.ref b), none, some (.ref l), none, none]) (b := false) (et_is (et_not (et_B (ev_allT (el_lcV (n := qs.length - 1) (fun _ => .bl true) (fun _ => true) (ei_zipL (K := K) (eql_ev (ev_var rfl) (sq_of hl)) (eql_of wl) (by rw [List.length_drop, nl]; omega)) (by omega)
      fun i x H6 H7 e6 hi hy => ?_)))) rfl) (fun z => by cases z) (fun _ H6 e6 => ?_)
    · obtain ⟨T, x, y, rfl, hT, rfl, h1, h2⟩ := hy
      have h2' : ((names qs).map V.str |>.drop 1)[i]? = some y := h2
      rw [List.getElem?_drop] at h2'
      obtain ⟨z1, hz1, rfl⟩ := map_at h1
      obtain ⟨z2, hz2, rfl⟩ := map_at h2'
      rw [Nat.add_comm] at hz2
      have hlt := asc_at g.asc hz1 hz2
      refine ⟨Ex.new hT, _, fun R h => g_tup2 (i := 4) (j := 5) upd_same h, rfl, et_yes, fun _ => ?_⟩
      exact ev_op (ev_var rfl) (ev_var rfl) fun H8 _ Q q => ⟨z1, z2, rfl, rfl, by rw [decide_eq_true hlt]; exact q H8 (Ex.refl _)⟩
    have e16 := e15.trans e6
    refine s_ret (v := .bl true) (ev_allT (el_lcV (σ := [some (.ref a), some (.ref b), none, some (.ref l), none, none]) (fun _ => .bl true) (fun _ => true) (ei_tup (K := K) (eq_ev (ev_var rfl) (st_of (e16 _ _ hb)))) (by rw [hlen]; omega)
      fun i x H7 H8 e7 hi hy => ?_)) fun H7 e7 => k _ _ (e16.trans e7) rfl
    obtain ⟨rfl, hx⟩ := hy
    obtain ⟨p, r, rfl, _, hqr, q', hrow, hpay⟩ := RowsH.at hpr hx
    have hm := List.mem_of_getElem? hqr
    have e17 := e16.trans e7
    refine ⟨Ex.refl _, _, fun R h => h, rfl, et_yes, fun _ => ?_⟩
    exact ev_callB (ea_cons (ev_op (ev_var rfl) ev_c (rv_ixT (st_of (e17 _ _ hrow)) (at_of (j := 2) rfl rfl))) (ea_cons (ev_op (ev_var rfl) ev_c (rv_ixT (st_of (e17 _ _ hrow)) (at_of (j := 0) rfl rfl))) (ea_cons (ev_var rfl) ea_nil)))
      fun H9 e9 => ⟨q', r.1, l, names qs, r.2.2, rfl, hpay.tx (TX.of (e17.trans e9)), ((e6.trans e7).trans e9) _ _ hl, g.pay r hm⟩
theorem ok_check_queues (F : Fun K "check_queues" "check_queues" s_check_queues f fd) (T : Tx K mg aK tk) (c_is_queues : Cal P w K mg base CX0 3 "is_queues" ["value"] (spB PreQ)) : FnOk P w K mg base CX0 4 f fd ["queues"] (spN PreQ) := by
  refine F.ok sc_check_queues (fun vs H Q E h => ?_) (fun cdv A outer s H vs Q E hr h => ?_)
  · obtain ⟨⟨a, qs, rfl, _⟩, _⟩ := h
    rfl
  · obtain ⟨⟨a, qs, rfl, hq, g⟩, k⟩ := h
    have hu := hu_of hr
    refine ⟨_, (pss_one (ps_if (pt_not (pt_val (pe_cl c_is_queues hr (by decide) (by rfl) (pa_cons (pv 0) pa_nil))))
        (pss_one ps_never)
        pss_nil)), ?_⟩
    exact s_when (b := false) (et_is (et_not (et_B (ev_callB (ea_cons (ev_var rfl) ea_nil) fun H1 e1 => ⟨a, qs, rfl, hq.tx (TX.of e1), g⟩))) rfl) (fun z => by cases z) fun _ H1 e1 => k _ _ e1 rfl
end
end NQ
namespace NQ
open PySem PySem.Spec PyProof.Rows L2 Evl
open KQ (Row)
section
variable {P : Program} {w : World} {K : PySem.W.Frag} {mg : Str → Option Value} {base : Heap} {f : Addr} {fd : FuncData} {aK : Addr} {tk : Tk}
/-- queues[1] -/
theorem ev_houses {σ : L2.St} {H : Hp} {a b : Addr} {te : TE} (h : Ev te σ H (.ref a)) (ha : H a = some (.tup [.str "queues", .ref b])) : Ev (tOp (rIxT K) te (tC (.int 1))) σ H (.ref b) :=
  ev_op h ev_c (rv_ixT (st_of ha) (at_of (j := 1) rfl rfl))
theorem ok_is_state_of (F : Fun K "is_state_of" "is_state_of" s_is_state_of f fd) (T : Tx K mg aK tk) (c_is_integer : Cal P w K mg base CX0 1 "is_integer" ["thing", "low", "high"] (spB PreInt)) : FnOk P w K mg base CX0 2 f fd ["queues", "thing"] (spB PreSt) := by
  refine F.ok sc_is_state_of (fun vs H Q E h => ?_) (fun cdv A outer s H vs Q E hr h => ?_)
  · obtain ⟨⟨a, s, qs, ff, rfl, _⟩, _⟩ := h
    rfl
  · obtain ⟨⟨a, s, qs, ff, rfl, ⟨b, ha, ps, hb, hpr⟩, g, hs, hw⟩, k⟩ := h
    have hu := hu_of hr
    refine ⟨_, (pss_cons (ps_set (i := 2) sc_is_state_of.nd rfl (Or.inl rfl) (pe_ix (ixT (K := K) rfl) (pv 0) pe_int (fun _ _ => rfl)))
      (pss_cons (ps_if (PW.pt (pw_or (pt_not (pt_val (pe_callB (crIsi (K := K) rfl) (by rfl) T.isinstance (by decide +kernel) (pa_cons (pv 1) (pa_cons (pe_bltn (v := .ty "tuple") (by rfl) T.tuple (by decide +kernel) rfl) pa_nil))))) (pw_or1 (pt_cmpR op_ne (pe_callB (crLen (K := K) rfl) (by rfl) T.len (by decide +kernel) (pa_cons (pv 1) pa_nil)) (pe_callB (crLen (K := K) rfl) (by rfl) T.len (by decide +kernel) (pa_cons (pv 2) pa_nil)) (nomark _)))))
        (pss_one (ps_ret pe_bl))
        pss_nil)
      (pss_one (ps_ret (pe_callB (crAll (K := K) rfl rfl) (by rfl) T.all (by decide +kernel) (pa_cons (pe_lc (own := [("count", 3), ("part", 4)]) rfl sc_is_state_of.nd (piZipL (K := K) rfl (by rfl) T.zip (pa_cons (pv 1) (pa_cons (pv 2) pa_nil))) (blkOk_by (own := [("count", 3), ("part", 4)]) (N := N_is_state_of) (sc := defScope s_is_state_of) (by decide +kernel)) (fun _ _ _ _ _ => (pgTup (K := K) (n := 2) rfl rfl (pgs_cons (pg_name (i := 3) sc_is_state_of.nd rfl (Or.inl rfl)) (pgs_cons (pg_name (i := 4) sc_is_state_of.nd rfl (Or.inl rfl)) pgs_nil)))) (fun _ _ _ _ _ => pts_nil) (fun _ _ _ _ _ => (pe_cl c_is_integer hr (by decide) (by rfl) (pa_cons (pv 3) (pa_cons pe_int (pa_cons (pe_callB (crLen (K := K) rfl) (by rfl) T.len (by decide +kernel) (pa_cons (pe_ix (ixT (K := K) rfl) (pv 4) pe_int (fun _ _ => rfl)) pa_nil)) pa_nil)))))) pa_nil)))))), ?_⟩
    have g40 := g.l40
    have hlen : (ps.map V.ref).length = qs.length := by rw [List.length_map, paired_len hpr]
    refine q_asg (ev_op (ev_var rfl) ev_c (rv_ixT (st_of ha) (at_of (j := 1) rfl rfl))) fun H1 e1 => ?_
    refine q_when (σ := [some (.ref a), some (.ref s), some (.ref b), none, none]) (b := false) (et_is (et_or (et_not (et_B (ev_isi (ev_var rfl) ev_c (ClsV.ty _) (fun H1 e2 => .base (.tup ((e1.trans e2) _ _ hs))) (kit_ty (b := "tuple") (r := true) (by decide +kernel))))) fun _ =>
      et_test (ev_op (ev_lenT (ev_var rfl) (st_of (e1 _ _ hs))) (ev_lenT (ev_var rfl) (st_of (e1 _ _ hb))) (rv_ne rfl))) (by rw [hlen, stV_len]; simp)) (fun z => by cases z) (fun _ H2 e2 => ?_)
    have e12 := e1.trans e2
    refine s_ret (v := .bl true) (ev_allT (el_lcV (σ := [some (.ref a), some (.ref s), some (.ref b), none, none]) (fun _ => .bl true) (fun _ => true) (ei_zipT (K := K) (eq_ev (ev_var rfl) (st_of (e12 _ _ hs))) (eq_ev (ev_var rfl) (st_of (e12 _ _ hb))) (by rw [hlen, stV_len])) (by rw [stV_len]; omega)
      fun i x H3 H4 e3 hi hy => ?_)) fun H3 e3 => k _ _ (e12.trans e3) rfl
    obtain ⟨U, x, y, rfl, hU, rfl, h1, h2⟩ := hy
    have h2' : (ps.map V.ref)[i]? = some y := h2
    obtain ⟨p, r, rfl, _, hqr, q', hrow, ps', hp', hpr'⟩ := RowsH.at hpr h2'
    have hm := List.mem_of_getElem? hqr
    have h1' : (stV qs ff)[i]? = some x := h1
    rw [stV_at hqr] at h1'
    cases h1'
    have eU : Ex H3 (upd H3 U (.tup [.int (ff r.1 : Nat), .ref p])) := Ex.new hU
    have e := e12.trans (e3.trans eU)
    refine ⟨eU, _, fun R h => g_tup2 (i := 3) (j := 4) upd_same h, rfl, et_yes, fun _ => ?_⟩
    refine ev_callB (ea_cons (ev_var rfl) (ea_cons ev_c (ea_cons (ev_lenT (xs := ps'.map V.ref) (ev_op (ev_var rfl) ev_c (rv_ixT (st_of (e _ _ hrow)) (at_of (j := 2) rfl rfl))) (st_of (e _ _ hp'))) ea_nil))) fun H5 _ => ⟨(ff r.1 : Nat), 0, _, rfl, by omega, ?_⟩
    rw [List.length_map, paired_len hpr']
    have := hw r hm
    omega
theorem ok_check_state (F : Fun K "check_state" "check_state" s_check_state f fd) (T : Tx K mg aK tk) (c_is_state_of : Cal P w K mg base CX0 2 "is_state_of" ["queues", "thing"] (spB PreSt)) : FnOk P w K mg base CX0 3 f fd ["queues", "state"] (spN PreSt) := by
  refine F.ok sc_check_state (fun vs H Q E h => ?_) (fun cdv A outer s H vs Q E hr h => ?_)
  · obtain ⟨⟨a, s, qs, ff, rfl, _⟩, _⟩ := h
    rfl
  · obtain ⟨⟨a, s, qs, ff, rfl, hq, g, hs, hw⟩, k⟩ := h
    have hu := hu_of hr
    refine ⟨_, (pss_one (ps_if (pt_not (pt_val (pe_cl c_is_state_of hr (by decide) (by rfl) (pa_cons (pv 0) (pa_cons (pv 1) pa_nil)))))
        (pss_one ps_never)
        pss_nil)), ?_⟩
    exact s_when (b := false) (et_is (et_not (et_B (ev_callB (ea_cons (ev_var rfl) (ea_cons (ev_var rfl) ea_nil)) fun H1 e1 => ⟨a, s, qs, ff, rfl, hq.tx (TX.of e1), g, e1 _ _ hs, hw⟩))) rfl) (fun z => by cases z) fun _ H1 e1 => k _ _ e1 rfl
theorem ok_number_of (F : Fun K "number_of" "number_of" s_number_of f fd) (T : Tx K mg aK tk) : FnOk P w K mg base CX0 1 f fd ["queues"] spNum := by
  refine F.ok sc_number_of (fun vs H Q E h => ?_) (fun cdv A outer s H vs Q E hr h => ?_)
  · obtain ⟨a, qs, rfl, _⟩ := h
    rfl
  · obtain ⟨a, qs, rfl, ⟨b, ha, ps, hb, hpr⟩, g, k⟩ := h
    have hu := hu_of hr
    refine ⟨_, (pss_one (ps_ret (pe_dc (own := [("at", 1), ("part", 2)]) rfl sc_number_of.nd (piEnum (K := K) rfl (by rfl) T.enumerate (pa_cons (pe_ix (ixT (K := K) rfl) (pv 0) pe_int (fun _ _ => rfl)) pa_nil)) (blkOk_by (own := [("at", 1), ("part", 2)]) (N := N_number_of) (sc := defScope s_number_of) (by decide +kernel)) (fun _ _ _ _ _ => (pgTup (K := K) (n := 2) rfl rfl (pgs_cons (pg_name (i := 1) sc_number_of.nd rfl (Or.inl rfl)) (pgs_cons (pg_name (i := 2) sc_number_of.nd rfl (Or.inl rfl)) pgs_nil)))) (fun _ _ _ _ _ => pts_nil) (fun _ _ _ _ _ => (pe_ix (ixT (K := K) rfl) (pv 2) pe_int (fun _ _ => rfl))) (fun _ _ _ _ _ => (pv 1))))), ?_⟩
    have g40 := g.l40
    have hlen : (ps.map V.ref).length = qs.length := by rw [List.length_map, paired_len hpr]
    have wk := ed_dcV (g := gTup K 2 (gCons (gName 1) (gCons (gName 2) gNil))) (vs := [1, 2]) (tk := tOp (rIxT K) (tVar 2) (tC (.int 0))) (tv := tVar 1) (σ := [some (.ref a), none, none]) (H := H) (fun i => (Sum.inr (qs.getD i rowD).1 : Key)) (fun i => V.int (i : Nat))
      (ei_enum (K := K) (eq_ev (ev_houses (K := K) (ev_var (i := 0) rfl) ha) (st_of hb))) (by rw [hlen]; omega) fun i x H1 H2 e1 hi hy => by
        obtain ⟨U, x, y, rfl, hU, rfl, h1, h2⟩ := hy
        have h2' : (ps.map V.ref)[i]? = some y := h2
        obtain ⟨p, r, rfl, _, hqr, q', hrow, _⟩ := RowsH.at hpr h2'
        have h1' : some (V.int (i : Nat)) = some x := h1
        cases h1'
        refine ⟨Ex.new hU, _, fun R h => g_tup2 (i := 1) (j := 2) upd_same h, rfl, ?_, ev_var rfl⟩
        rw [getD_of hqr]
        exact ev_op (ev_var rfl) ev_c (rv_ixT (st_of ((e1.trans (Ex.new hU)) _ _ hrow)) (at_of (j := 0) rfl rfl))
    rw [hlen] at wk
    exact wk H (Ex.refl H) _ fun d H1 hd e1 hd1 => k d H1 hd e1 hd1
theorem ok_rich (F : Fun K "rich" "rich" s_rich f fd) (T : Tx K mg aK tk) : FnOk P w K mg base CX0 1 f fd ["queues", "cash"] spRich := by
  refine F.ok sc_rich (fun vs H Q E h => ?_) (fun cdv A outer s H vs Q E hr h => ?_)
  · obtain ⟨a, d, qs, kvs, w, rfl, _⟩ := h
    rfl
  · obtain ⟨a, d, qs, kvs, w', rfl, ⟨b, ha, ps, hb, hpr⟩, g40, hd, hw, k⟩ := h
    have hu := hu_of hr
    refine ⟨_, (pss_one (ps_ret (pe_tup (pa_cons pe_str (pa_cons (pe_callTy (crTup (K := K) rfl) (by rfl) T.tuple (by decide +kernel) (pa_cons (pe_lc (own := [("name", 2), ("own", 3), ("payments", 4)]) rfl sc_rich.nd (piTup (K := K) rfl (pe_ix (ixT (K := K) rfl) (pv 0) pe_int (fun _ _ => rfl))) (blkOk_by (own := [("name", 2), ("own", 3), ("payments", 4)]) (N := N_rich) (sc := defScope s_rich) (by decide +kernel)) (fun _ _ _ _ _ => (pgTup (K := K) (n := 3) rfl rfl (pgs_cons (pg_name (i := 2) sc_rich.nd rfl (Or.inl rfl)) (pgs_cons (pg_name (i := 3) sc_rich.nd rfl (Or.inl rfl)) (pgs_cons (pg_name (i := 4) sc_rich.nd rfl (Or.inl rfl)) pgs_nil))))) (fun _ _ _ _ _ => pts_nil) (fun _ _ _ _ _ => (pe_tup (pa_cons (pv 2) (pa_cons (pe_dget2 hu (pv 1) (pv 2) (pv 3) ⟨rfl, rfl, rfl, rfl⟩) (pa_cons (pv 4) pa_nil)))))) pa_nil)) pa_nil))))), ?_⟩
    have hlen : (ps.map V.ref).length = qs.length := by rw [List.length_map, paired_len hpr]
    have hl2 : (KQ.mc w' qs).length = qs.length := List.length_map ..
    refine s_retG (gv_queues (K := K) (rs := KQ.mc w' qs) (n := (ps.map V.ref).length) (by rw [hl2, hlen]) (el_lcG (ei_tup (K := K) (eq_ev (ev_houses (K := K) (ev_var (i := 0) rfl) ha) (st_of hb))) (by rw [hlen]; omega) (fun _ => true) _
      (fun i v H1 H2 e ⟨p, hv, hp⟩ => ⟨p, hv, hp.tx e⟩) fun i x H1 H2 e1 hi hy => ?_)) fun v H1 e1 ⟨a', hv, ha'⟩ => by
        subst hv
        exact k a' H1 e1 ha'
    obtain ⟨rfl, hx⟩ := hy
    obtain ⟨p, r, rfl, _, hqr, q', hrow, hpay⟩ := RowsH.at hpr hx
    refine ⟨Ex.refl _, _, fun R h => g_tup3 (i := 2) (j := 3) (l := 4) (e1 _ _ hrow) h, rfl, et_yes, fun _ => ?_⟩
    have er : (KQ.mc w' qs).getD i rowD = (r.1, w' r, r.2.2) := getD_of (by unfold KQ.mc; rw [List.getElem?_map, hqr]; rfl)
    have ec := hw r (List.mem_of_getElem? hqr)
    have key := ev_get2 (k := Sum.inr r.1) (z := .int r.2.1) (σ := [some (.ref a), some (.ref d), some (.str r.1), some (.int r.2.1), some (.ref q')]) (H := H2) (td := tVar 1) (ty := tVar 2) (tx := tVar 3) (ev_var rfl) (ev_var rfl) (ev_var rfl) (e1 _ _ hd)
    rw [ec] at key
    refine (gv_tup3 (ev_var rfl) key (ev_var rfl)).imp fun v H3 e3 ⟨p2, hv, hp2⟩ => ⟨p2, hv, q', ?_, ?_⟩
    · rw [er]
      exact hp2
    · rw [er]
      exact hpay.tx (TX.of (e1.trans e3))
theorem ok_end_of_all (F : Fun K "end_of_all" "end_of_all" s_end_of_all f fd) (T : Tx K mg aK tk) : FnOk P w K mg base CX0 1 f fd ["queues"] spEnd := by
  refine F.ok sc_end_of_all (fun vs H Q E h => ?_) (fun cdv A outer s H vs Q E hr h => ?_)
  · obtain ⟨a, qs, rfl, _⟩ := h
    rfl
  · obtain ⟨a, qs, rfl, ⟨b, ha, ps, hb, hpr⟩, g40, k⟩ := h
    have hu := hu_of hr
    refine ⟨_, (pss_one (ps_ret (pe_callTy (crTup (K := K) rfl) (by rfl) T.tuple (by decide +kernel) (pa_cons (pe_lc (own := [("part", 1)]) rfl sc_end_of_all.nd (piTup (K := K) rfl (pe_ix (ixT (K := K) rfl) (pv 0) pe_int (fun _ _ => rfl))) (blkOk_by (own := [("part", 1)]) (N := N_end_of_all) (sc := defScope s_end_of_all) (by decide +kernel)) (fun _ _ _ _ _ => (pg_name (i := 1) sc_end_of_all.nd rfl (Or.inl rfl))) (fun _ _ _ _ _ => pts_nil) (fun _ _ _ _ _ => (pe_callB (crLen (K := K) rfl) (by rfl) T.len (by decide +kernel) (pa_cons (pe_ix (ixT (K := K) rfl) (pv 1) pe_int (fun _ _ => rfl)) pa_nil)))) pa_nil)))), ?_⟩
    have hlen : (ps.map V.ref).length = qs.length := by rw [List.length_map, paired_len hpr]
    have wk := el_lcV (te := tCB (rLenS K) (tCons (tOp (rIxT K) (tVar 1) (tC (.int 2))) tNil)) (tt := tYes) (g := gName 1) (vs := [1]) (σ := [some (.ref a), none]) (H := H) (fun i => V.int ((qs.getD i rowD).2.2.length : Nat)) (fun _ => true) (ei_tup (K := K) (eq_ev (ev_houses (K := K) (ev_var (i := 0) rfl) ha) (st_of hb))) (by rw [hlen]; omega)
      fun i x H5 H6 e5 hi hy => by
        obtain ⟨rfl, hx⟩ := hy
        obtain ⟨p, r, rfl, _, hqr, q', hrow, ps', hp', hpr'⟩ := RowsH.at hpr hx
        refine ⟨Ex.refl _, _, fun R h => h, rfl, et_yes, fun _ => ?_⟩
        rw [getD_of hqr, ← paired_len hpr', ← List.length_map (as := ps') (f := V.ref)]
        exact ev_lenT (ev_op (ev_var rfl) ev_c (rv_ixT (st_of (e5 _ _ hrow)) (at_of (j := 2) rfl rfl))) (st_of (e5 _ _ hp'))
    rw [idx_map rowD (fun r : Row Str => V.int (r.2.2.length : Nat)) qs hlen] at wk
    exact s_retU (eu_tupOf (K := K) wk) fun s H1 hs0 e1 hs => k s H1 e1 hs0 hs
theorem all_range_getD {α : Type} (d : α) (p : α → Bool) (xs : List α) : ((List.range xs.length).map fun i => p (xs.getD i d)).all id = xs.all p := by
  rw [map_range_getD, List.all_map]
  rfl
theorem ok_is_within (F : Fun K "is_within" "is_within" s_is_within f fd) (T : Tx K mg aK tk) : FnOk P w K mg base CX0 1 f fd ["one", "other"] spWith := by
  refine F.ok sc_is_within (fun vs H Q E h => ?_) (fun cdv A outer s H vs Q E hr h => ?_)
  · obtain ⟨s, l, qs, ff, gg, rfl, _⟩ := h
    rfl
  · obtain ⟨s, l, qs, ff, gg, rfl, hs, hl, g40, k⟩ := h
    have hu := hu_of hr
    rcases hl with hl | hl
    · refine ⟨_, (pss_one (ps_ret (pe_callB (crAll (K := K) rfl rfl) (by rfl) T.all (by decide +kernel) (pa_cons (pe_lc (own := [("first", 2), ("second", 3)]) rfl sc_is_within.nd (piZipM (K := K) rfl (by rfl) T.zip (pa_cons (pv 0) (pa_cons (pv 1) pa_nil))) (blkOk_by (own := [("first", 2), ("second", 3)]) (N := N_is_within) (sc := defScope s_is_within) (by decide +kernel)) (fun _ _ _ _ _ => (pgTup (K := K) (n := 2) rfl rfl (pgs_cons (pg_name (i := 2) sc_is_within.nd rfl (Or.inl rfl)) (pgs_cons (pg_name (i := 3) sc_is_within.nd rfl (Or.inl rfl)) pgs_nil)))) (fun _ _ _ _ _ => pts_nil) (fun _ _ _ _ _ => (pe_cmpR op_le (pv 2) (pv 3) (nomark _)))) pa_nil)))), ?_⟩
      have wk := el_lcV (te := tOp (rI0 fun i j => .bl (decide (i ≤ j))) (tVar 2) (tVar 3)) (tt := tYes) (g := gTup K 2 (gCons (gName 2) (gCons (gName 3) gNil))) (vs := [2, 3]) (σ := [some (.ref s), some (.ref l), none, none]) (H := H)
        (fun i => V.bl (decide (ff (qs.getD i rowD).1 ≤ gg (qs.getD i rowD).1))) (fun _ => true) (ei_zipM (K := K) (eq_ev (ev_var (i := 0) rfl) (st_of hs)) (eql_ev (ev_var (i := 1) rfl) (sq_of hl)) (by rw [stV_len, stV_len])) (by rw [stV_len]; omega)
        fun i x H3 H4 e3 hi hy => by
          obtain ⟨U, x, y, rfl, hU, rfl, h1, h2⟩ := hy
          rw [stV_len] at hi
          obtain ⟨r, hqr⟩ := get_of (l := qs) (i := i) rfl hi
          have h1' : (stV qs ff)[i]? = some x := h1
          have h2' : (stV qs gg)[i]? = some y := h2
          rw [stV_at hqr] at h1' h2'
          cases h1'
          cases h2'
          refine ⟨Ex.new hU, _, fun R h => g_tup2 (i := 2) (j := 3) upd_same h, rfl, et_yes, fun _ => ?_⟩
          rw [getD_of hqr]
          refine ev_is (ev_leV (i := (ff r.1 : Nat)) (j := (gg r.1 : Nat)) (ev_var rfl) (ev_var rfl)) ?_
          by_cases h : ff r.1 ≤ gg r.1
          · rw [decide_eq_true h, decide_eq_true (by omega)]
          · rw [decide_eq_false h, decide_eq_false (by omega)]
      rw [stV_len, idx_map rowD (fun r : Row Str => V.bl (decide (ff r.1 ≤ gg r.1))) qs rfl] at wk
      refine s_ret (ev_allB (bs := qs.map fun r => decide (ff r.1 ≤ gg r.1)) wk (by rw [List.map_map]; rfl)) fun H1 e1 => ?_
      rw [List.all_map]
      exact k H1 e1
    · refine ⟨_, (pss_one (ps_ret (pe_callB (crAll (K := K) rfl rfl) (by rfl) T.all (by decide +kernel) (pa_cons (pe_lc (own := [("first", 2), ("second", 3)]) rfl sc_is_within.nd (piZipL (K := K) rfl (by rfl) T.zip (pa_cons (pv 0) (pa_cons (pv 1) pa_nil))) (blkOk_by (own := [("first", 2), ("second", 3)]) (N := N_is_within) (sc := defScope s_is_within) (by decide +kernel)) (fun _ _ _ _ _ => (pgTup (K := K) (n := 2) rfl rfl (pgs_cons (pg_name (i := 2) sc_is_within.nd rfl (Or.inl rfl)) (pgs_cons (pg_name (i := 3) sc_is_within.nd rfl (Or.inl rfl)) pgs_nil)))) (fun _ _ _ _ _ => pts_nil) (fun _ _ _ _ _ => (pe_cmpR op_le (pv 2) (pv 3) (nomark _)))) pa_nil)))), ?_⟩
      have wk := el_lcV (te := tOp (rI0 fun i j => .bl (decide (i ≤ j))) (tVar 2) (tVar 3)) (tt := tYes) (g := gTup K 2 (gCons (gName 2) (gCons (gName 3) gNil))) (vs := [2, 3]) (σ := [some (.ref s), some (.ref l), none, none]) (H := H)
        (fun i => V.bl (decide (ff (qs.getD i rowD).1 ≤ gg (qs.getD i rowD).1))) (fun _ => true) (ei_zipT (K := K) (eq_ev (ev_var (i := 0) rfl) (st_of hs)) (eq_ev (ev_var (i := 1) rfl) (st_of hl)) (by rw [stV_len, stV_len])) (by rw [stV_len]; omega)
        fun i x H3 H4 e3 hi hy => by
          obtain ⟨U, x, y, rfl, hU, rfl, h1, h2⟩ := hy
          rw [stV_len] at hi
          obtain ⟨r, hqr⟩ := get_of (l := qs) (i := i) rfl hi
          have h1' : (stV qs ff)[i]? = some x := h1
          have h2' : (stV qs gg)[i]? = some y := h2
          rw [stV_at hqr] at h1' h2'
          cases h1'
          cases h2'
          refine ⟨Ex.new hU, _, fun R h => g_tup2 (i := 2) (j := 3) upd_same h, rfl, et_yes, fun _ => ?_⟩
          rw [getD_of hqr]
          refine ev_is (ev_leV (i := (ff r.1 : Nat)) (j := (gg r.1 : Nat)) (ev_var rfl) (ev_var rfl)) ?_
          by_cases h : ff r.1 ≤ gg r.1
          · rw [decide_eq_true h, decide_eq_true (by omega)]
          · rw [decide_eq_false h, decide_eq_false (by omega)]
      rw [stV_len, idx_map rowD (fun r : Row Str => V.bl (decide (ff r.1 ≤ gg r.1))) qs rfl] at wk
      refine s_ret (ev_allB (bs := qs.map fun r => decide (ff r.1 ≤ gg r.1)) wk (by rw [List.map_map]; rfl)) fun H1 e1 => ?_
      rw [List.all_map]
      exact k H1 e1
end
end NQ
namespace NQ
open PySem PySem.Spec PyProof.Rows L2 Evl
open KQ (Row held bump drop bump_same bump_ne drop_same drop_ne)
/-- all but two lists (or a dict and a list) stands -/
def ExD (a l : Addr) (H H' : Hp) : Prop := ∀ b o, H b = some o → b ≠ a → b ≠ l → H' b = some o
theorem ExD.refl {a l : Addr} (H : Hp) : ExD a l H H := fun _ _ h _ _ => h
theorem ExD.trans {a l : Addr} {H H1 H2 : Hp} (x : ExD a l H H1) (y : ExD a l H1 H2) : ExD a l H H2 := fun b o h n1 n2 => y b o (x b o h n1 n2) n1 n2
theorem ExD.of {a l : Addr} {H H' : Hp} (e : Ex H H') : ExD a l H H' := fun b o h _ _ => e b o h
theorem ExD.updA {a l : Addr} {H : Hp} {o : HO} : ExD a l H (upd H a o) := fun b u h n1 _ => by rw [upd_ne n1]; exact h
theorem ExD.updL {a l : Addr} {H : Hp} {o : HO} : ExD a l H (upd H l o) := fun b u h _ n2 => by rw [upd_ne n2]; exact h
theorem ExD.tx {a l : Addr} {H H' : Hp} {xs ys : List V} (e : ExD a l H H') (ha : H a = some (.lst xs)) (hl : H l = some (.lst ys)) : TX H H' := fun b zs h => e b _ h (ne_of h ha (by intro z; cases z)) (ne_of h hl (by intro z; cases z))
theorem ExD.ex {a l : Addr} {H H1 H2 : Hp} (e1 : Ex H H1) (e : ExD a l H1 H2) (ha : H a = none) (hl : H l = none) : Ex H H2 := fun b o h => e b o (e1 b o h) (ne_of_none h ha) (ne_of_none h hl)
/-- the balances, a list by the houses -/
def baV (qs : List (Row Str)) (c : Str → Int) (f : Str → Nat) : List V := qs.map fun r => V.int (held qs c f r)
theorem baV_len (qs : List (Row Str)) (c : Str → Int) (f : Str → Nat) : (baV qs c f).length = qs.length := List.length_map ..
theorem baV_at {qs : List (Row Str)} {c : Str → Int} {f : Str → Nat} {i : Nat} {r : Row Str} (h : qs[i]? = some r) : (baV qs c f)[i]? = some (.int (held qs c f r)) := by
  unfold baV
  rw [List.getElem?_map, h]
  rfl
theorem map_set {qs : List (Row Str)} (nd : (names qs).Nodup) {i : Nat} {r : Row Str} (h : qs[i]? = some r) {g g' : Row Str → V} {v : V} (h1 : g' r = v) (h2 : ∀ q ∈ qs, q.1 ≠ r.1 → g' q = g q) : (qs.map g).set i v = qs.map g' := by
  have hi := (List.getElem?_eq_some_iff.mp h).1
  refine List.ext_getElem? fun j => ?_
  rw [List.getElem?_set, List.getElem?_map, List.getElem?_map]
  by_cases e : i = j
  · subst e
    rw [if_pos rfl, if_pos (by rw [List.length_map]; exact hi), h]
    show some v = some (g' r)
    rw [h1]
  · rw [if_neg e]
    cases hq : qs[j]? with
    | none => rfl
    | some q =>
      show some (g q) = some (g' q)
      rw [h2 q (List.mem_of_getElem? hq) fun z => e ?_]
      have hj := (List.getElem?_eq_some_iff.mp hq).1
      have a1 : (names qs)[i]? = some r.1 := by rw [List.getElem?_map, h]; rfl
      have a2 : (names qs)[j]? = some q.1 := by rw [List.getElem?_map, hq]; rfl
      rw [z, ← a1] at a2
      exact ((List.getElem?_inj (by rw [List.length_map]; exact hj) nd).mp a2).symm
theorem set_bump {qs : List (Row Str)} (nd : (names qs).Nodup) {i : Nat} {r : Row Str} (h : qs[i]? = some r) (f : Str → Nat) : (stV qs f).set i (.int ((f r.1 : Nat) + 1)) = stV qs (bump f r.1) :=
  map_set nd h (by rw [bump_same]; rfl) fun q _ hq => by rw [bump_ne hq]
section
variable {K : PySem.W.Frag} {σ : L2.St} {H H' : Hp} {ta tb tc te tx td ty tl : TE} {t u : TT} {x y z v : V} {tr : TA} {D : Ends} {tz : TS}
/-- o[j] op= e, o a list -/
theorem s_augL {l : Addr} {xs : List V} {j : Nat} {a b : Int} {fn : Int → Int → Int} (hl : H l = some (.lst xs)) (ho : Ev ta σ H (.ref l)) (hi : Ev tb σ H (.int (j : Int))) (hx : xs[j]? = some (.int a)) (h : Ev te σ H (.int b))
    (k : ∀ H1, Ex H H1 → D.nx σ (upd H1 l (.lst (xs.set j (.int (fn a b)))))) : tAugS ta tb te (rGetL K) (ipI fn) rSetL D σ H := by
  refine ho H (Ex.refl H) _ fun H1 e1 => hi H1 e1 _ fun H2 e2 => ?_
  refine ⟨l, xs, j, .int a, rfl, rfl, sq_of ((e1.trans e2) _ _ hl), hx, ?_⟩
  refine h H2 (e1.trans e2) _ fun H3 e3 => ⟨a, b, rfl, rfl, ?_⟩
  exact ⟨l, xs, j, j, rfl, rfl, ((e1.trans e2).trans e3) _ _ hl, ixN_nat (List.getElem?_eq_some_iff.mp hx).1, k H3 ((e1.trans e2).trans e3)⟩
theorem q_augL {l : Addr} {xs : List V} {j : Nat} {a b : Int} {fn : Int → Int → Int} (hl : H l = some (.lst xs)) (ho : Ev ta σ H (.ref l)) (hi : Ev tb σ H (.int (j : Int))) (hx : xs[j]? = some (.int a)) (h : Ev te σ H (.int b))
    (k : ∀ H1, Ex H H1 → tz D σ (upd H1 l (.lst (xs.set j (.int (fn a b)))))) : tSeq (tAugS ta tb te (rGetL K) (ipI fn) rSetL) tz D σ H := s_augL (D := { D with nx := tz D }) hl ho hi hx h k
/-- for i, x in enumerate(a tuple), whatever the body changes -/
theorem q_forE {a : Addr} {xs : List V} {i j : Nat} {tb : TS} (h : Ev tl σ H (.ref a)) (hx : SqT K H a xs) (Pv : Nat → L2.St → Hp → Prop) (h0 : ∀ H1, Ex H H1 → Pv 0 σ H1) (hl : ∀ k σ' H', Pv k σ' H' → SqT K H' a xs)
    (hs : ∀ (k : Nat) (x : V) (σ' : L2.St) (H' H2 : Hp) (N : L2.St → Hp → Prop), xs[k]? = some x → Pv k σ' H' → Ex H' H2 → (∀ σ3 H3, Pv (k + 1) σ3 H3 → N σ3 H3) → tb { D with nx := N, ct := N, bk := tz D } ((σ'.set i (some (.int (k : Nat)))).set j (some x)) H2)
    (hd : ∀ σ' H', Pv xs.length σ' H' → tz D σ' H') : tSeq (tFor (iEnumT K (tCons tl tNil)) (gTup K 2 (gCons (gName i) (gCons (gName j) gNil))) tb) tz D σ H := by
  refine h H (Ex.refl H) _ fun H1 e1 => ⟨a, xs, rfl, ex_t e1 hx, ?_⟩
  refine for_it walk_enumT (D := { D with nx := tz D }) Pv (h0 H1 e1) (fun k σ' H' _ p => hl k σ' H' p) (fun k x σ' H' H2 hk p hy => ?_) hd
  obtain ⟨U, y, z, rfl, hU, rfl, h1, h2⟩ := hy
  have h1' : some (V.int (k : Nat)) = some y := h1
  cases h1'
  exact g_tup2 upd_same (hs k z σ' H' _ _ h2 p (Ex.new hU) fun _ _ h => h)
end
/-! ### pays_next, paying -/
structure Sts (H : Hp) (a s b : Addr) (qs : List (Row Str)) (c : Str → Int) (f : Str → Nat) : Prop where
  q : QH H a qs
  l40 : qs.length ≤ 40
  nd : (names qs).Nodup
  st : H s = some (.lst (stV qs f))
  ba : H b = some (.lst (baV qs c f))
  ne : s ≠ b
theorem Sts.mono {H H' : Hp} {a s b : Addr} {qs : List (Row Str)} {c : Str → Int} {f : Str → Nat} (h : Sts H a s b qs c f) (e : Ex H H') : Sts H' a s b qs c f := ⟨h.q.tx (TX.of e), h.l40, h.nd, e _ _ h.st, e _ _ h.ba, h.ne⟩
def spPay : Sp := fun vs H Q _ => ∃ a d s b qs c f i r x, vs = [.ref a, .ref d, .ref s, .ref b, .int (i : Nat)] ∧ Sts H a s b qs c f ∧ H d = some (.dK (numK qs)) ∧ qs[i]? = some r ∧ r.2.2[f r.1]? = some x ∧ x.1 ∈ names qs ∧
  ∀ H', ExD s b H H' → Sts H' a s b qs c (bump f r.1) → Q .non H'
section
variable {P : Program} {w : World} {K : PySem.W.Frag} {mg : Str → Option Value} {base : Heap} {f : Addr} {fd : FuncData} {aK : Addr} {tk : Tk}
theorem ok_pays_next (F : Fun K "pays_next" "pays_next" s_pays_next f fd) (T : Tx K mg aK tk) : FnOk P w K mg base CX0 1 f fd ["queues", "numbers", "state", "balances", "at"] spPay := by
  refine F.ok sc_pays_next (fun vs H Q E h => ?_) (fun cdv A outer s H vs Q E hr h => ?_)
  · obtain ⟨a, d, s, b, qs, c, ff, i, r, x, rfl, _⟩ := h
    rfl
  · obtain ⟨a, d, s, b, qs, c, ff, i, r, x, rfl, S, hd, hqr, hx, hxm, k⟩ := h
    have hu := hu_of hr
    refine ⟨_, (pss_cons (ps_asg (pe_ix (ixT (K := K) rfl) (pe_ix (ixT (K := K) rfl) (pe_ix (ixT (K := K) rfl) (pe_ix (ixT (K := K) rfl) (pv 0) pe_int (fun _ _ => rfl)) (pv 4) (fun _ _ => rfl)) pe_int (fun _ _ => rfl)) (pe_ix (ixL (K := K) rfl) (pv 2) (pv 4) (fun _ _ => rfl)) (fun _ _ => rfl)) (pgTup (K := K) (n := 2) rfl rfl (pgs_cons (pg_name (i := 5) sc_pays_next.nd rfl (Or.inl rfl)) (pgs_cons (pg_name (i := 6) sc_pays_next.nd rfl (Or.inl rfl)) pgs_nil))))
      (pss_cons (ps_augS (pv 2) (pv 4) (getL (K := K) rfl) pe_int ip_add set_list)
      (pss_cons (ps_augS (pv 3) (pv 4) (getL (K := K) rfl) (pv 6) ip_sub set_list)
      (pss_one (ps_augS (pv 3) (pe_dget hu (pv 1) (pv 5) (fun _ _ => rfl)) (getL (K := K) rfl) (pv 6) ip_add set_list))))), ?_⟩
    obtain ⟨hb0, ha, ps, hb, hpr⟩ := id S.q
    obtain ⟨p, hp⟩ := get_of (l := ps) (i := i) rfl (by rw [paired_len hpr]; exact (List.getElem?_eq_some_iff.mp hqr).1)
    obtain ⟨q', hrow, ps', hp', hpr'⟩ := paired_at hpr hp hqr
    obtain ⟨px, hpx⟩ := get_of (l := ps') (i := ff r.1) rfl (by rw [paired_len hpr']; exact (List.getElem?_eq_some_iff.mp hx).1)
    have hxp : H px = some (.tup [.str x.1, .int x.2]) := paired_at hpr' hpx hx
    obtain ⟨j, hj, ej⟩ := List.mem_iff_getElem.mp hxm
    rw [List.length_map] at hj
    obtain ⟨rj, hqj⟩ := get_of (l := qs) (i := j) rfl hj
    have ejn : rj.1 = x.1 := by
      rw [← ej, List.getElem_map]
      rw [List.getElem?_eq_getElem hj] at hqj
      rw [Option.some.inj hqj]
    -- creditor, amount = queues[1][at][2][state[at]]
    refine q_asgT2 (K := K) (p := px) (x := .str x.1) (y := .int x.2) (ev_op (ev_op (ev_op (ev_houses (K := K) (ev_var rfl) ha) (ev_var rfl) (rv_ixT (st_of hb) (at_of (j := i) rfl (by rw [List.getElem?_map, hp]; rfl)))) ev_c (rv_ixT (st_of hrow) (at_of (j := 2) rfl rfl)))
      (ev_op (ev_var rfl) (ev_var rfl) (rv_ixL (sq_of S.st) (at_of (j := i) rfl (stV_at hqr)))) (rv_ixT (st_of hp') (at_of (j := ff r.1) rfl (by rw [List.getElem?_map, hpx]; rfl)))) hxp fun H1 e1 => ?_
    -- state[at] += 1
    refine q_augL (σ := [some (.ref a), some (.ref d), some (.ref s), some (.ref b), some (.int (i : Nat)), some (.str x.1), some (.int x.2)]) (e1 _ _ S.st) (ev_var rfl) (ev_var rfl) (stV_at hqr) ev_c fun H2 e2 => ?_
    rw [set_bump S.nd hqr]
    have e12 := e1.trans e2
    have hb2 : (upd H2 s (.lst (stV qs (bump ff r.1)))) b = some (.lst (baV qs c ff)) := by
      rw [upd_ne S.ne.symm]
      exact e12 _ _ S.ba
    -- balances[at] -= amount
    refine q_augL (σ := [some (.ref a), some (.ref d), some (.ref s), some (.ref b), some (.int (i : Nat)), some (.str x.1), some (.int x.2)]) hb2 (ev_var rfl) (ev_var rfl) (baV_at hqr) (ev_var rfl) fun H3 e3 => ?_
    have es1 : (baV qs c ff).set i (.int (held qs c ff r - x.2)) = qs.map fun q => V.int (held qs c ff q - if q.1 = r.1 then x.2 else 0) :=
      map_set S.nd hqr (by rw [if_pos rfl]) fun q _ hq => by rw [if_neg hq, Int.sub_zero]
    rw [es1]
    have hx3 : ExD s b H (upd H3 b (.lst (qs.map fun q => V.int (held qs c ff q - if q.1 = r.1 then x.2 else 0)))) := ((ExD.of e12).trans ExD.updA).trans ((ExD.of e3).trans ExD.updL)
    generalize hH4 : upd H3 b (.lst (qs.map fun q => V.int (held qs c ff q - if q.1 = r.1 then x.2 else 0))) = H4 at hx3
    have hb4 : H4 b = some (.lst (qs.map fun q => V.int (held qs c ff q - if q.1 = r.1 then x.2 else 0))) := by rw [← hH4, upd_same]
    have hs4 : H4 s = some (.lst (stV qs (bump ff r.1))) := by
      rw [← hH4, upd_ne S.ne]
      exact e3 _ _ upd_same
    have hd4 : H4 d = some (.dK (numK qs)) := hx3 _ _ hd (ne_of hd S.st (by intro z; cases z)) (ne_of hd S.ba (by intro z; cases z))
    -- balances[numbers[creditor]] += amount
    refine s_augL (j := j) (σ := [some (.ref a), some (.ref d), some (.ref s), some (.ref b), some (.int (i : Nat)), some (.str x.1), some (.int x.2)]) hb4 (ev_var rfl) (ev_dget (k := Sum.inr x.1) (ev_var rfl) (ev_var rfl) hd4 (by rw [← ejn]; exact numK_at S.nd hqj)) (by rw [List.getElem?_map, hqj]; rfl) (ev_var rfl) fun H5 e5 => ?_
    have es2 : (qs.map fun q => V.int (held qs c ff q - if q.1 = r.1 then x.2 else 0)).set j (.int ((held qs c ff rj - if rj.1 = r.1 then x.2 else 0) + x.2)) = baV qs c (bump ff r.1) := by
      refine map_set S.nd hqj ?_ fun q hq hn => ?_
      · rw [KQ.held_bump S.nd (List.mem_of_getElem? hqr) (List.mem_of_getElem? hqj) hx, if_pos ejn.symm]
      · rw [KQ.held_bump S.nd (List.mem_of_getElem? hqr) hq hx, if_neg (c := x.1 = q.1) (fun z => hn (by rw [ejn]; exact z.symm)), Int.add_zero]
    rw [es2]
    have hx5 : ExD s b H (upd H5 b (.lst (baV qs c (bump ff r.1)))) := hx3.trans ((ExD.of e5).trans ExD.updL)
    refine k _ hx5 ⟨S.q.tx (hx5.tx S.st S.ba), S.l40, S.nd, ?_, upd_same, S.ne⟩
    rw [upd_ne S.ne]
    exact e5 _ _ hs4
end
end NQ
namespace NQ
open PySem PySem.Spec PyProof.Rows L2 Evl
open KQ (Row held bump drop bump_same bump_ne drop_same drop_ne)
theorem bump_drop {f : Str → Nat} {z : Str} (h : f z ≠ 0) : bump (drop f z) z = f := by
  funext y
  by_cases e : y = z
  · subst e
    rw [bump_same, drop_same]
    omega
  · rw [bump_ne e, drop_ne e]
theorem set_drop {qs : List (Row Str)} (nd : (names qs).Nodup) {i : Nat} {r : Row Str} (h : qs[i]? = some r) {f : Str → Nat} (h0 : f r.1 ≠ 0) : (stV qs f).set i (.int ((f r.1 : Nat) - 1)) = stV qs (drop f r.1) :=
  map_set nd h (by rw [drop_same]; congr 1; omega) fun q _ hq => by rw [drop_ne hq]
def canPay (qs : List (Row Str)) (c : Str → Int) (f : Str → Nat) (r : Row Str) : Bool :=
  match r.2.2[f r.1]? with
  | some x => decide (x.2 ≤ held qs c f r)
  | none => false
def payIx (qs : List (Row Str)) (c : Str → Int) (f : Str → Nat) : List Nat := idxs qs.length fun i => canPay qs c f (qs.getD i rowD)
def ixV (is : List Nat) : List V := is.map fun i => V.int (i : Nat)
def spBack : Sp := fun vs H Q _ => ∃ a d s b qs c f i r x, vs = [.ref a, .ref d, .ref s, .ref b, .int (i : Nat)] ∧ Sts H a s b qs c f ∧ H d = some (.dK (numK qs)) ∧ qs[i]? = some r ∧ f r.1 ≠ 0 ∧ r.2.2[f r.1 - 1]? = some x ∧ x.1 ∈ names qs ∧
  ∀ H', ExD s b H H' → Sts H' a s b qs c (drop f r.1) → Q .non H'
/-- a state, a list or a tuple -/
theorem rv_ixA {K : PySem.W.Frag} {H : Hp} {s : Addr} {qs : List (Row Str)} {f : Str → Nat} {i : Nat} {r : Row Str} (h : StA H s qs f) (hr : qs[i]? = some r) : RV (rIx K) (.ref s) (.int (i : Nat)) H (.int (f r.1 : Nat)) := fun H1 e Q q => by
  rcases h with h | h
  · exact Or.inl (rv_ixL (sq_of h) (at_of (j := i) rfl (stV_at hr)) H1 e Q q)
  · exact Or.inr (Or.inl (rv_ixT (st_of h) (at_of (j := i) rfl (stV_at hr)) H1 e Q q))
def spPaying : Sp := fun vs H Q _ => ∃ a s b qs c f, vs = [.ref a, .ref s, .ref b] ∧ QH H a qs ∧ qs.length ≤ 40 ∧ StA H s qs f ∧ H b = some (.lst (baV qs c f)) ∧ ∀ l H', H l = none → Ex H H' → H' l = some (.lst (ixV (payIx qs c f))) → Q (.ref l) H'
section
variable {P : Program} {w : World} {K : PySem.W.Frag} {mg : Str → Option Value} {base : Heap} {f : Addr} {fd : FuncData} {aK : Addr} {tk : Tk}
theorem ok_takes_back (F : Fun K "takes_back" "takes_back" s_takes_back f fd) (T : Tx K mg aK tk) : FnOk P w K mg base CX0 1 f fd ["queues", "numbers", "state", "balances", "at"] spBack := by
  refine F.ok sc_takes_back (fun vs H Q E h => ?_) (fun cdv A outer s H vs Q E hr h => ?_)
  · obtain ⟨a, d, s, b, qs, c, ff, i, r, x, rfl, _⟩ := h
    rfl
  · obtain ⟨a, d, s, b, qs, c, ff, i, r, x, rfl, S, hd, hqr, hf0, hx, hxm, k⟩ := h
    have hu := hu_of hr
    refine ⟨_, (pss_cons (ps_augS (pv 2) (pv 4) (getL (K := K) rfl) pe_int ip_sub set_list)
      (pss_cons (ps_asg (pe_ix (ixT (K := K) rfl) (pe_ix (ixT (K := K) rfl) (pe_ix (ixT (K := K) rfl) (pe_ix (ixT (K := K) rfl) (pv 0) pe_int (fun _ _ => rfl)) (pv 4) (fun _ _ => rfl)) pe_int (fun _ _ => rfl)) (pe_ix (ixL (K := K) rfl) (pv 2) (pv 4) (fun _ _ => rfl)) (fun _ _ => rfl)) (pgTup (K := K) (n := 2) rfl rfl (pgs_cons (pg_name (i := 5) sc_takes_back.nd rfl (Or.inl rfl)) (pgs_cons (pg_name (i := 6) sc_takes_back.nd rfl (Or.inl rfl)) pgs_nil))))
      (pss_cons (ps_augS (pv 3) (pv 4) (getL (K := K) rfl) (pv 6) ip_add set_list)
      (pss_one (ps_augS (pv 3) (pe_dget hu (pv 1) (pv 5) (fun _ _ => rfl)) (getL (K := K) rfl) (pv 6) ip_sub set_list))))), ?_⟩
    obtain ⟨hb0, ha, ps, hb, hpr⟩ := id S.q
    obtain ⟨p, hp⟩ := get_of (l := ps) (i := i) rfl (by rw [paired_len hpr]; exact (List.getElem?_eq_some_iff.mp hqr).1)
    obtain ⟨q', hrow, ps', hp', hpr'⟩ := paired_at hpr hp hqr
    obtain ⟨px, hpx⟩ := get_of (l := ps') (i := ff r.1 - 1) rfl (by rw [paired_len hpr']; exact (List.getElem?_eq_some_iff.mp hx).1)
    have hxp : H px = some (.tup [.str x.1, .int x.2]) := paired_at hpr' hpx hx
    obtain ⟨j, hj, ej⟩ := List.mem_iff_getElem.mp hxm
    rw [List.length_map] at hj
    obtain ⟨rj, hqj⟩ := get_of (l := qs) (i := j) rfl hj
    have ejn : rj.1 = x.1 := by
      rw [← ej, List.getElem_map]
      rw [List.getElem?_eq_getElem hj] at hqj
      rw [Option.some.inj hqj]
    have hgx : r.2.2[drop ff r.1 r.1]? = some x := by
      rw [drop_same]
      exact hx
    have hbump : ∀ q ∈ qs, held qs c ff q = held qs c (drop ff r.1) q - (if q.1 = r.1 then x.2 else 0) + if x.1 = q.1 then x.2 else 0 := fun q hq => by
      have := KQ.held_bump (c := c) S.nd (List.mem_of_getElem? hqr) hq hgx
      rw [bump_drop hf0] at this
      exact this
    -- state[at] -= 1
    refine q_augL (fn := fun i j => i - j) (σ := [some (.ref a), some (.ref d), some (.ref s), some (.ref b), some (.int (i : Nat)), none, none]) S.st (ev_var rfl) (ev_var rfl) (stV_at hqr) ev_c fun H1 e1 => ?_
    rw [show (stV qs ff).set i (.int (((ff r.1 : Nat) : Int) - 1)) = stV qs (drop ff r.1) from set_drop S.nd hqr hf0]
    have hx1 : ExD s b H (upd H1 s (.lst (stV qs (drop ff r.1)))) := (ExD.of e1).trans ExD.updA
    have hs1 : (upd H1 s (.lst (stV qs (drop ff r.1)))) s = some (.lst (stV qs (drop ff r.1))) := upd_same
    have hb1 : (upd H1 s (.lst (stV qs (drop ff r.1)))) b = some (.lst (baV qs c ff)) := by
      rw [upd_ne S.ne.symm]
      exact e1 _ _ S.ba
    generalize upd H1 s (.lst (stV qs (drop ff r.1))) = H2 at hx1 hs1 hb1
    have tx := hx1.tx S.st S.ba
    -- creditor, amount = queues[1][at][2][state[at]]
    refine q_asgT2 (K := K) (p := px) (x := .str x.1) (y := .int x.2) (ev_op (ev_op (ev_op (ev_houses (K := K) (ev_var rfl) (tx _ _ ha)) (ev_var rfl) (rv_ixT (st_of (tx _ _ hb)) (at_of (j := i) rfl (by rw [List.getElem?_map, hp]; rfl)))) ev_c (rv_ixT (st_of (tx _ _ hrow)) (at_of (j := 2) rfl rfl)))
      (ev_op (ev_var rfl) (ev_var rfl) (rv_ixL (sq_of hs1) (at_of (j := i) rfl (stV_at hqr)))) (rv_ixT (st_of (tx _ _ hp')) (at_of (j := ff r.1 - 1) (by rw [drop_same]) (by rw [List.getElem?_map, hpx]; rfl)))) (tx _ _ hxp) fun H3 e3 => ?_
    -- balances[at] += amount
    refine q_augL (fn := fun i j => i + j) (σ := [some (.ref a), some (.ref d), some (.ref s), some (.ref b), some (.int (i : Nat)), some (.str x.1), some (.int x.2)]) (e3 _ _ hb1) (ev_var rfl) (ev_var rfl) (baV_at hqr) (ev_var rfl) fun H4 e4 => ?_
    have es1 : (baV qs c ff).set i (.int (held qs c ff r + x.2)) = qs.map fun q => V.int (held qs c ff q + if q.1 = r.1 then x.2 else 0) :=
      map_set S.nd hqr (by rw [if_pos rfl]) fun q _ hq => by rw [if_neg hq, Int.add_zero]
    rw [es1]
    have hx4 : ExD s b H (upd H4 b (.lst (qs.map fun q => V.int (held qs c ff q + if q.1 = r.1 then x.2 else 0)))) := hx1.trans ((ExD.of (e3.trans e4)).trans ExD.updL)
    have hb4 : (upd H4 b (.lst (qs.map fun q => V.int (held qs c ff q + if q.1 = r.1 then x.2 else 0)))) b = some (.lst (qs.map fun q => V.int (held qs c ff q + if q.1 = r.1 then x.2 else 0))) := upd_same
    have hs4 : (upd H4 b (.lst (qs.map fun q => V.int (held qs c ff q + if q.1 = r.1 then x.2 else 0)))) s = some (.lst (stV qs (drop ff r.1))) := by
      rw [upd_ne S.ne]
      exact (e3.trans e4) _ _ hs1
    generalize upd H4 b (.lst (qs.map fun q => V.int (held qs c ff q + if q.1 = r.1 then x.2 else 0))) = H5 at hx4 hb4 hs4
    have hd4 : H5 d = some (.dK (numK qs)) := hx4 _ _ hd (ne_of hd S.st (by intro z; cases z)) (ne_of hd S.ba (by intro z; cases z))
    -- balances[numbers[creditor]] -= amount
    refine s_augL (fn := fun i j => i - j) (j := j) (σ := [some (.ref a), some (.ref d), some (.ref s), some (.ref b), some (.int (i : Nat)), some (.str x.1), some (.int x.2)]) hb4 (ev_var rfl) (ev_dget (k := Sum.inr x.1) (ev_var rfl) (ev_var rfl) hd4 (by rw [← ejn]; exact numK_at S.nd hqj)) (by rw [List.getElem?_map, hqj]; rfl) (ev_var rfl) fun H6 e6 => ?_
    have es2 : (qs.map fun q => V.int (held qs c ff q + if q.1 = r.1 then x.2 else 0)).set j (.int ((held qs c ff rj + if rj.1 = r.1 then x.2 else 0) - x.2)) = baV qs c (drop ff r.1) := by
      refine map_set S.nd hqj ?_ fun q hq hn => ?_
      · rw [hbump rj (List.mem_of_getElem? hqj), if_pos ejn.symm]
        congr 1
        omega
      · rw [hbump q hq, if_neg (c := x.1 = q.1) (fun z => hn (by rw [ejn]; exact z.symm))]
        congr 1
        omega
    rw [es2]
    have hx6 : ExD s b H (upd H6 b (.lst (baV qs c (drop ff r.1)))) := hx4.trans ((ExD.of e6).trans ExD.updL)
    refine k _ hx6 ⟨S.q.tx (hx6.tx S.st S.ba), S.l40, S.nd, ?_, upd_same, S.ne⟩
    rw [upd_ne S.ne]
    exact e6 _ _ hs4
theorem ok_paying (F : Fun K "paying" "paying" s_paying f fd) (T : Tx K mg aK tk) : FnOk P w K mg base CX0 1 f fd ["queues", "state", "balances"] spPaying := by
  refine F.ok sc_paying (fun vs H Q E h => ?_) (fun cdv A outer s H vs Q E hr h => ?_)
  · obtain ⟨a, s, b, qs, c, ff, rfl, _⟩ := h
    rfl
  · obtain ⟨a, s, b, qs, c, ff, rfl, hq, l40, hSA, hBA, k⟩ := h
    have hu := hu_of hr
    refine ⟨_, (pss_cons (ps_set (i := 3) sc_paying.nd rfl (Or.inl rfl) (pe_lst pa_nil))
      (pss_cons (ps_for PassesOwn.never rfl (piEnum (K := K) rfl (by rfl) T.enumerate (pa_cons (pe_ix (ixT (K := K) rfl) (pv 0) pe_int (fun _ _ => rfl)) pa_nil)) (pgTup (K := K) (n := 2) rfl rfl (pgs_cons (pg_name (i := 4) sc_paying.nd rfl (Or.inl rfl)) (pgs_cons (pg_name (i := 5) sc_paying.nd rfl (Or.inl rfl)) pgs_nil)))
        (pss_one (ps_if (PW.pt (pw_and (pt_cmpR op_lt (pe_ix (ixS (K := K) rfl) (pv 1) (pv 4) (fun _ _ => rfl)) (pe_callB (crLen (K := K) rfl) (by rfl) T.len (by decide +kernel) (pa_cons (pe_ix (ixT (K := K) rfl) (pv 5) pe_int (fun _ _ => rfl)) pa_nil)) (nomark _)) (pw_and1 (pt_cmpR op_ge (pe_ix (ixL (K := K) rfl) (pv 2) (pv 4) (fun _ _ => rfl)) (pe_ix (ixT (K := K) rfl) (pe_ix (ixT (K := K) rfl) (pe_ix (ixT (K := K) rfl) (pv 5) pe_int (fun _ _ => rfl)) (pe_ix (ixS (K := K) rfl) (pv 1) (pv 4) (fun _ _ => rfl)) (fun _ _ => rfl)) pe_int (fun _ _ => rfl)) (nomark _)))))
        (pss_one (ps_expr (pe_bm PySem.F.plainAttrs_list PySem.F.slot_list_append PySem.F.type_list_append mt_append (pv 3) (pa_cons (pv 4) pa_nil))))
        pss_nil)))
      (pss_one (ps_ret (pv 3))))), ?_⟩
    obtain ⟨hb0, ha, ps, hb, hpr⟩ := id hq
    have hlen : (ps.map V.ref).length = qs.length := by rw [List.length_map, paired_len hpr]
    refine q_asgL (el_lst ea_nil (by decide)) fun l H1 hl0 e1 hl => ?_
    refine q_forE (K := K) (a := hb0) (xs := ps.map V.ref) (σ := [some (.ref a), some (.ref s), some (.ref b), some (.ref l), none, none]) (ev_houses (K := K) (ev_var rfl) (e1 _ _ ha)) (st_of (e1 _ _ hb))
      (fun i σ' H' => ∃ y4 y5, σ' = [some (.ref a), some (.ref s), some (.ref b), some (.ref l), y4, y5] ∧ i ≤ 40 ∧ Ex H H' ∧ H' l = some (.lst (ixV (idxs i fun i => canPay qs c ff (qs.getD i rowD)))))
      (fun H2 e2 => ⟨none, none, rfl, by omega, e1.trans e2, e2 _ _ hl⟩) (fun i σ' H' hP => ?_) (fun i x σ' H' H2 N hx hP e2 kN => ?_) (fun σ' H' hP => ?_)
    · obtain ⟨_, _, _, _, e, _⟩ := hP
      exact st_of (e _ _ hb)
    · obtain ⟨y4, y5, rfl, hi, e, hl'⟩ := hP
      have e' := e.trans e2
      obtain ⟨p, r, rfl, _, hqr, q', hrow, ps', hp', hpr'⟩ := RowsH.at hpr hx
      have hiq := (List.getElem?_eq_some_iff.mp hqr).1
      have egd : qs.getD i rowD = r := getD_of hqr
      have est : ∀ {H3 : Hp}, Ex H2 H3 → Ev (tOp (rIx K) (tVar 1) (tVar 4)) [some (.ref a), some (.ref s), some (.ref b), some (.ref l), some (.int (i : Nat)), some (.ref p)] H3 (.int (ff r.1 : Nat)) := fun e3 => ev_op (ev_var rfl) (ev_var rfl) (rv_ixA (hSA.ex (e'.trans e3)) hqr)
      have epay : ∀ {H3 : Hp}, Ex H2 H3 → Ev (tOp (rIxT K) (tVar 5) (tC (.int 2))) [some (.ref a), some (.ref s), some (.ref b), some (.ref l), some (.int (i : Nat)), some (.ref p)] H3 (.ref q') := fun e3 => ev_op (ev_var rfl) ev_c (rv_ixT (st_of ((e'.trans e3) _ _ hrow)) (at_of (j := 2) rfl rfl))
      refine s_when (σ := [some (.ref a), some (.ref s), some (.ref b), some (.ref l), some (.int (i : Nat)), some (.ref p)]) (b := canPay qs c ff r) ?_ (fun hb H3 e3 => ?_) (fun hb H3 e3 => kN _ _ ⟨_, _, rfl, by omega, e'.trans e3, ?_⟩)
      · refine et_is (et_and (et_test (ev_ltV (est (Ex.refl _)) (ev_lenT (epay (Ex.refl _)) (st_of (e' _ _ hp'))))) (b := canPay qs c ff r) fun hlt => ?_) ?_
        · rw [List.length_map, paired_len hpr', decide_eq_true_eq] at hlt
          obtain ⟨x, hx2⟩ := get_of (l := r.2.2) (i := ff r.1) rfl (by omega)
          obtain ⟨px, hpx⟩ := get_of (l := ps') (i := ff r.1) (paired_len hpr') (by omega)
          have hxp : H px = some (.tup [.str x.1, .int x.2]) := paired_at hpr' hpx hx2
          refine et_is (et_test (ev_geV (i := held qs c ff r) (j := x.2) (ev_op (ev_var rfl) (ev_var rfl) (rv_ixL (sq_of (e' _ _ hBA)) (at_of (j := i) rfl (baV_at hqr)))) (ev_op (ev_op (epay (Ex.refl _)) (est (Ex.refl _)) (rv_ixT (st_of (e' _ _ hp')) (at_of (j := ff r.1) rfl (by rw [List.getElem?_map, hpx]; rfl)))) ev_c (rv_ixT (st_of (e' _ _ hxp)) (at_of (j := 1) rfl rfl))))) ?_
          unfold canPay
          rw [hx2]
        · rw [List.length_map, paired_len hpr']
          unfold canPay
          cases hx2 : r.2.2[ff r.1]? with
          | none => simp
          | some x =>
            have := (List.getElem?_eq_some_iff.mp hx2).1
            rw [decide_eq_true (by omega), Bool.true_and]
      · refine s_app (K := K) ((e2.trans e3) _ _ hl') (ev_var rfl) (ev_var rfl) ?_ fun H4 e4 => kN _ _ ⟨_, _, rfl, by omega, ?_, ?_⟩
        · have h1 : (ixV (idxs i fun i => canPay qs c ff (qs.getD i rowD))).length ≤ i := by
            unfold ixV idxs
            rw [List.length_map]
            have := List.length_filter_le (fun i => canPay qs c ff (qs.getD i rowD)) (List.range i)
            rw [List.length_range] at this
            exact this
          omega
        · exact Ex.mut (e'.trans (e3.trans e4)) hl0
        · rw [upd_same, idxs_yes (by rw [egd]; exact hb)]
          unfold ixV
          rw [List.map_append]
          rfl
      · rw [idxs_no (by rw [egd]; exact hb)]
        exact (e2.trans e3) _ _ hl'
    · obtain ⟨y4, y5, rfl, hi, e, hl'⟩ := hP
      rw [hlen] at hl'
      exact s_ret (ev_var rfl) fun H2 e2 => k l H2 hl0 (e.trans e2) (e2 _ _ hl')
end
end NQ
namespace NQ
open PySem PySem.Spec PyProof.Rows L2 Evl
open KQ (Row held bump drop bump_same bump_ne drop_same drop_ne)
/-! ### one payment moved, in a list of balances -/
def midV (qs : List (Row Str)) (c : Str → Int) (g : Str → Nat) (r : Row Str) (x : Str × Int) : List V := qs.map fun q => V.int (held qs c g q - if q.1 = r.1 then x.2 else 0)
section
variable {qs : List (Row Str)} {c : Str → Int} {g : Str → Nat} {r rj : Row Str} {x : Str × Int} {i j : Nat}
theorem set_mid1 (nd : (names qs).Nodup) (hqr : qs[i]? = some r) : (baV qs c g).set i (.int (held qs c g r - x.2)) = midV qs c g r x :=
  map_set nd hqr (by rw [if_pos rfl]) fun q _ hq => by rw [if_neg hq, Int.sub_zero]
theorem mid_at (hqj : qs[j]? = some rj) : (midV qs c g r x)[j]? = some (.int (held qs c g rj - if rj.1 = r.1 then x.2 else 0)) := by
  unfold midV
  rw [List.getElem?_map, hqj]
  rfl
theorem set_mid2 (nd : (names qs).Nodup) (hqr : qs[i]? = some r) (hx : r.2.2[g r.1]? = some x) (hqj : qs[j]? = some rj) (ejn : rj.1 = x.1) :
    (midV qs c g r x).set j (.int ((held qs c g rj - if rj.1 = r.1 then x.2 else 0) + x.2)) = baV qs c (bump g r.1) := by
  refine map_set nd hqj ?_ fun q hq hn => ?_
  · rw [KQ.held_bump nd (List.mem_of_getElem? hqr) (List.mem_of_getElem? hqj) hx, if_pos ejn.symm]
  · rw [KQ.held_bump nd (List.mem_of_getElem? hqr) hq hx, if_neg (c := x.1 = q.1) (fun z => hn (by rw [ejn]; exact z.symm)), Int.add_zero]
end
/-! ### states by the first rows -/
def upto (qs : List (Row Str)) (k : Nat) (f : Str → Nat) : Str → Nat := fun z => if z ∈ (names qs).take k then f z else 0
def inrow (z0 : Str) (j : Nat) (g : Str → Nat) : Str → Nat := fun z => if z = z0 then j else g z
theorem inrow_bump (z0 : Str) (j : Nat) (g : Str → Nat) : bump (inrow z0 j g) z0 = inrow z0 (j + 1) g := by
  funext y
  unfold inrow KQ.bump
  by_cases e : y = z0
  · simp [e]
  · simp [e]
theorem not_take {qs : List (Row Str)} (nd : (names qs).Nodup) {k : Nat} {r : Row Str} (h : qs[k]? = some r) : r.1 ∉ (names qs).take k := fun hm => by
  obtain ⟨i, hi, e⟩ := List.mem_iff_getElem.mp hm
  rw [List.length_take] at hi
  rw [List.getElem_take] at e
  have a1 : (names qs)[k]? = some r.1 := by rw [List.getElem?_map, h]; rfl
  have a2 : (names qs)[i]? = some r.1 := by rw [List.getElem?_eq_getElem (by omega), e]
  rw [← a1] at a2
  have := (List.getElem?_inj (by omega) nd).mp a2
  omega
theorem upto_in {qs : List (Row Str)} (nd : (names qs).Nodup) {k : Nat} {r : Row Str} (h : qs[k]? = some r) (f : Str → Nat) : inrow r.1 0 (upto qs k f) = upto qs k f := by
  funext y
  unfold inrow
  by_cases e : y = r.1
  · rw [if_pos e, e]
    unfold upto
    rw [if_neg (not_take nd h)]
  · rw [if_neg e]
theorem upto_out {qs : List (Row Str)} {k : Nat} {r : Row Str} (h : qs[k]? = some r) (f : Str → Nat) : inrow r.1 (f r.1) (upto qs k f) = upto qs (k + 1) f := by
  funext y
  have a1 : (names qs)[k]? = some r.1 := by rw [List.getElem?_map, h]; rfl
  have e1 : (names qs).take (k + 1) = (names qs).take k ++ [r.1] := by
    rw [List.take_succ, a1]
    rfl
  unfold inrow upto
  rw [e1]
  by_cases e : y = r.1
  · rw [if_pos e, e, if_pos (by simp)]
  · rw [if_neg e]
    by_cases m : y ∈ (names qs).take k
    · rw [if_pos m, if_pos (List.mem_append_left _ m)]
    · rw [if_neg m, if_neg (by simp [m, e])]
theorem upto_none (qs : List (Row Str)) (f : Str → Nat) : upto qs 0 f = fun _ => 0 := by
  funext y
  unfold upto
  simp
theorem upto_all {qs : List (Row Str)} (c : Str → Int) (f : Str → Nat) : baV qs c (upto qs qs.length f) = baV qs c f := by
  have e : ∀ r ∈ qs, upto qs qs.length f r.1 = f r.1 := fun r hr => by
    unfold upto
    rw [if_pos]
    rw [List.take_of_length_le (by rw [List.length_map]; exact Nat.le_refl _)]
    exact List.mem_map.mpr ⟨r, hr, rfl⟩
  unfold baV
  refine List.map_congr_left fun r hr => ?_
  unfold held
  rw [e r hr, KQ.got_congr e]
theorem held_zero {qs : List (Row Str)} {c : Str → Int} (r : Row Str) : held qs c (fun _ => 0) r = c r.1 := by
  have h1 : KQ.outS r.2.2 0 = 0 := by unfold KQ.outS; simp
  have h2 : KQ.got qs (fun _ => 0) r.1 = 0 := KQ.sum_zero fun x hx => by
    obtain ⟨q, _, rfl⟩ := List.mem_map.mp hx
    unfold KQ.inS
    simp
  unfold held
  rw [h1, h2]
  omega
section
variable {K : PySem.W.Frag} {σ : L2.St} {H H' : Hp} {ta tb tc te tx td ty tl : TE} {t u : TT} {x y z v : V} {tr : TA} {D : Ends} {tz : TS}
theorem st_updL {p l : Addr} {xs ys : List V} {o : HO} (h : SqT K H p xs) (hl : H l = some (.lst ys)) : SqT K (upd H l o) p xs := by
  rcases h with (h | ⟨o', h⟩) | h
  · exact Or.inl (Or.inl (by rw [upd_ne (ne_of h hl (by intro z; cases z))]; exact h))
  · exact Or.inl (Or.inr ⟨o', by rw [upd_ne (ne_of h hl (by intro z; cases z))]; exact h⟩)
  · exact Or.inr h
theorem st_updD {p l : Addr} {xs : List V} {kvs : List (Key × V)} {o : HO} (h : SqT K H p xs) (hl : H l = some (.dK kvs)) : SqT K (upd H l o) p xs := by
  rcases h with (h | ⟨o', h⟩) | h
  · exact Or.inl (Or.inl (by rw [upd_ne (ne_of h hl (by intro z; cases z))]; exact h))
  · exact Or.inl (Or.inr ⟨o', by rw [upd_ne (ne_of h hl (by intro z; cases z))]; exact h⟩)
  · exact Or.inr h
/-- for over a tuple, new or not, whatever the body changes -/
theorem s_forX {xs : List V} {g : TG} {tu : TS} (h : EvQ K tl σ H xs) (Pv : Addr → Nat → L2.St → Hp → Prop) (h0 : ∀ p H1, Ex H H1 → SqT K H1 p xs → Pv p 0 σ H1) (hl : ∀ p i σ' H', Pv p i σ' H' → SqT K H' p xs)
    (hs : ∀ p i x σ' H', xs[i]? = some x → Pv p i σ' H' → g x σ' H' fun σ2 H2 => tu { D with nx := Pv p (i + 1), ct := Pv p (i + 1), bk := D.nx } σ2 H2) (hd : ∀ p σ' H', Pv p xs.length σ' H' → D.nx σ' H') : tFor (iTup K tl) g tu D σ H :=
  h H (Ex.refl H) _ fun p H1 e hp => ⟨p, rfl, ⟨xs, hp⟩, for_tup (Pv p) (h0 p H1 e hp) (fun i σ' H' _ => hl p i σ' H') (hs p) (hd p)⟩
/-- d, l = a new dict, a new list -/
theorem q_parDL {i j : Nat} {kvs : List (Key × V)} {xs : List V} (h1 : EvD ta σ H kvs) (h2 : EvL tb σ H xs) (k : ∀ d l H1, H d = none → H l = none → d ≠ l → Ex H H1 → H1 d = some (.dK kvs) → H1 l = some (.lst xs) → tz D ((σ.set i (some (.ref d))).set j (some (.ref l))) H1) :
    tSeq (tPar i j (tCons ta (tCons tb tNil))) tz D σ H := h1 H (Ex.refl H) _ fun d H1 hd0 e1 hd => h2 H1 e1 _ fun l H2 hl0 e2 hl => ⟨.ref d, .ref l, rfl, k d l H2 hd0 (fresh_back e1 hl0) (ne_of_none hd hl0) (e1.trans e2) (e2 _ _ hd) hl⟩
theorem ed_num {a : Addr} {qs : List (Row Str)} (h : EvA tr σ H [.ref a]) (hq : QH H a qs) (g : WellQ qs) : EvD (tCall spNum [] E0 tr) σ H (numK qs) := fun H1 e Q q => by
  refine h H1 e _ fun H2 e2 => ?_
  rw [List.append_nil]
  exact ⟨a, qs, rfl, hq.tx (TX.of (e.trans e2)), g, fun d H' hd e3 hd' => q d H' (fresh_back e2 hd) (e2.trans e3) hd'⟩
end
def spBal : Sp := fun vs H Q _ => ∃ a s qs c f, vs = [.ref a, .ref s] ∧ QH H a qs ∧ WellQ qs ∧ StA H s qs f ∧ KQ.Within qs f ∧ (∀ r ∈ qs, c r.1 = r.2.1) ∧ ∀ l H', H l = none → Ex H H' → H' l = some (.lst (baV qs c f)) → Q (.ref l) H'
section
variable {P : Program} {w : World} {K : PySem.W.Frag} {mg : Str → Option Value} {base : Heap} {f : Addr} {fd : FuncData} {aK : Addr} {tk : Tk}
theorem ok_balance_list (F : Fun K "balance_list" "balance_list" s_balance_list f fd) (T : Tx K mg aK tk) (c_number_of : Cal P w K mg base CX0 1 "number_of" ["queues"] spNum) : FnOk P w K mg base CX0 2 f fd ["queues", "state"] spBal := by
  refine F.ok sc_balance_list (fun vs H Q E h => ?_) (fun cdv A outer s H vs Q E hr h => ?_)
  · obtain ⟨a, s, qs, c, ff, rfl, _⟩ := h
    rfl
  · obtain ⟨a, s, qs, c, ff, rfl, hq, g, hst, hw, hc, k⟩ := h
    have hu := hu_of hr
    refine ⟨_, (pss_cons (ps_par (i := 2) (j := 3) (by rfl) sc_balance_list.nd rfl rfl (by decide) rfl rfl (pa_cons (pe_cl c_number_of hr (by decide) (by rfl) (pa_cons (pv 0) pa_nil)) (pa_cons (pe_lc (own := [("part", 4)]) rfl sc_balance_list.nd (piTup (K := K) rfl (pe_ix (ixT (K := K) rfl) (pv 0) pe_int (fun _ _ => rfl))) (blkOk_by (own := [("part", 4)]) (N := N_balance_list) (sc := defScope s_balance_list) (by decide +kernel)) (fun _ _ _ _ _ => (pg_name (i := 4) sc_balance_list.nd rfl (Or.inl rfl))) (fun _ _ _ _ _ => pts_nil) (fun _ _ _ _ _ => (pe_ix (ixT (K := K) rfl) (pv 4) pe_int (fun _ _ => rfl)))) pa_nil)) (by rfl))
      (pss_cons (ps_for PassesOwn.never rfl (piEnum (K := K) rfl (by rfl) T.enumerate (pa_cons (pe_ix (ixT (K := K) rfl) (pv 0) pe_int (fun _ _ => rfl)) pa_nil)) (pgTup (K := K) (n := 2) rfl rfl (pgs_cons (pg_name (i := 5) sc_balance_list.nd rfl (Or.inl rfl)) (pgs_cons (pg_name (i := 4) sc_balance_list.nd rfl (Or.inl rfl)) pgs_nil)))
        (pss_one (ps_for PassesOwn.never rfl (piTup (K := K) rfl (pe_slice (slA (K := K) rfl) (pe_ix (ixT (K := K) rfl) (pv 4) pe_int (fun _ _ => rfl)) po_none (po_some (pe_ix (ixS (K := K) rfl) (pv 1) (pv 5) (fun _ _ => rfl))))) (pgTup (K := K) (n := 2) rfl rfl (pgs_cons (pg_name (i := 6) sc_balance_list.nd rfl (Or.inl rfl)) (pgs_cons (pg_name (i := 7) sc_balance_list.nd rfl (Or.inl rfl)) pgs_nil)))
        (pss_cons (ps_augS (pv 3) (pv 5) (getL (K := K) rfl) (pv 7) ip_sub set_list)
      (pss_one (ps_augS (pv 3) (pe_dget hu (pv 2) (pv 6) (fun _ _ => rfl)) (getL (K := K) rfl) (pv 7) ip_add set_list))))))
      (pss_one (ps_ret (pv 3))))), ?_⟩
    obtain ⟨hb0, ha, ps, hb, hpr⟩ := id hq
    have hlen : (ps.map V.ref).length = qs.length := by rw [List.length_map, paired_len hpr]
    have l40 := g.l40
    have nd := g.nd
    have wk := el_lcV (te := tOp (rIxT K) (tVar 4) (tC (.int 1))) (tt := tYes) (g := gName 4) (vs := [4]) (σ := [some (.ref a), some (.ref s), none, none, none, none, none, none]) (H := H) (fun i => V.int (qs.getD i rowD).2.1) (fun _ => true) (ei_tup (K := K) (eq_ev (ev_houses (K := K) (ev_var (i := 0) rfl) ha) (st_of hb))) (by rw [hlen]; omega)
      fun i x H5 H6 e5 hi hy => by
        obtain ⟨rfl, hx⟩ := hy
        obtain ⟨p, r, rfl, _, hqr, q', hrow, _⟩ := RowsH.at hpr hx
        refine ⟨Ex.refl _, _, fun R h => h, rfl, et_yes, fun _ => ?_⟩
        rw [getD_of hqr]
        exact ev_op (ev_var rfl) ev_c (rv_ixT (st_of (e5 _ _ hrow)) (at_of (j := 1) rfl rfl))
    rw [idx_map rowD (fun r : Row Str => V.int r.2.1) qs hlen] at wk
    have ecash : qs.map (fun r => V.int r.2.1) = baV qs c (upto qs 0 ff) := by
      rw [upto_none]
      unfold baV
      exact List.map_congr_left fun r hr => by rw [held_zero, hc r hr]
    rw [ecash] at wk
    refine q_parDL (ed_num (ea_cons (ev_var rfl) ea_nil) hq g) wk fun d l H1 hd0 hl0 hdl e1 hd hl => ?_
    refine q_forE (K := K) (a := hb0) (xs := ps.map V.ref) (σ := [some (.ref a), some (.ref s), some (.ref d), some (.ref l), none, none, none, none]) (ev_houses (K := K) (ev_var rfl) (e1 _ _ ha)) (st_of (e1 _ _ hb))
      (fun i σ' H' => ∃ y4 y5 y6 y7, σ' = [some (.ref a), some (.ref s), some (.ref d), some (.ref l), y4, y5, y6, y7] ∧ Ex H H' ∧ H' d = some (.dK (numK qs)) ∧ H' l = some (.lst (baV qs c (upto qs i ff))))
      (fun H2 e2 => ⟨none, none, none, none, rfl, e1.trans e2, e2 _ _ hd, e2 _ _ hl⟩) (fun i σ' H' hP => ?_) (fun i x σ' H' H2 N hx hP e2 kN => ?_) (fun σ' H' hP => ?_)
    · obtain ⟨_, _, _, _, _, e, _⟩ := hP
      exact st_of (e _ _ hb)
    · obtain ⟨y4, y5, y6, y7, rfl, e, hd', hl'⟩ := hP
      have e' := e.trans e2
      obtain ⟨p, r, rfl, _, hqr, q', hrow, ps', hp', hpr'⟩ := RowsH.at hpr hx
      have hrm := List.mem_of_getElem? hqr
      have hwl := hw r hrm
      have lps : (ps'.map V.ref).length = r.2.2.length := by rw [List.length_map, paired_len hpr']
      have sl := eq_slA (K := K) (σ := [some (.ref a), some (.ref s), some (.ref d), some (.ref l), some (.ref p), some (.int (i : Nat)), y6, y7]) (H := H2) (te := tOp (rIxT K) (tVar 4) (tC (.int 2))) (tb := tOp (rIx K) (tVar 1) (tVar 5)) (n := ff r.1) (xs := ps'.map V.ref) (a := q')
        (ev_op (ev_var rfl) ev_c (rv_ixT (st_of (e' _ _ hrow)) (at_of (j := 2) rfl rfl))) (st_of (e' _ _ hp')) (ev_op (ev_var rfl) (ev_var rfl) (rv_ixA (hst.ex e') hqr))
      refine s_forX sl (fun pa j σ' H' => ∃ y6 y7, σ' = [some (.ref a), some (.ref s), some (.ref d), some (.ref l), some (.ref p), some (.int (i : Nat)), y6, y7] ∧ SqT K H' pa ((ps'.map V.ref).take (ff r.1)) ∧ Ex H H' ∧ H' d = some (.dK (numK qs)) ∧ H' l = some (.lst (baV qs c (inrow r.1 j (upto qs i ff)))))
        (fun pa H3 e3 hpa => ⟨y6, y7, rfl, hpa, e'.trans e3, (e2.trans e3) _ _ hd', by rw [upto_in nd hqr]; exact (e2.trans e3) _ _ hl'⟩) (fun pa j σ' H' hP => by obtain ⟨_, _, _, h, _⟩ := hP; exact h) (fun pa j x σ' H' hx hP => ?_) (fun pa σ' H' hP => ?_)
      · obtain ⟨z6, z7, rfl, hpa, e3, hd3, hl3⟩ := hP
        have hjt := hx
        rw [List.getElem?_take] at hjt
        split at hjt
        case isFalse => cases hjt
        rename_i hjf
        obtain ⟨px, xx, rfl, _, hxx, hxp⟩ := PayH.at hpr' hjt
        have hxm := g.mem r hrm xx (List.mem_of_getElem? hxx)
        obtain ⟨m, hm, em⟩ := List.mem_iff_getElem.mp hxm
        rw [List.length_map] at hm
        obtain ⟨rj, hqj⟩ := get_of (l := qs) (i := m) rfl hm
        have ejn : rj.1 = xx.1 := by
          rw [← em, List.getElem_map]
          rw [List.getElem?_eq_getElem hm] at hqj
          rw [Option.some.inj hqj]
        have hgx : r.2.2[inrow r.1 j (upto qs i ff) r.1]? = some xx := by
          unfold inrow
          rw [if_pos rfl]
          exact hxx
        refine g_tup2 (i := 6) (j := 7) (e3 _ _ hxp) ?_
        refine q_augL (fn := fun i j => i - j) (σ := [some (.ref a), some (.ref s), some (.ref d), some (.ref l), some (.ref p), some (.int (i : Nat)), some (.str xx.1), some (.int xx.2)]) hl3 (ev_var rfl) (ev_var rfl) (baV_at hqr) (ev_var rfl) fun H4 e4 => ?_
        rw [show (baV qs c (inrow r.1 j (upto qs i ff))).set i (.int (held qs c (inrow r.1 j (upto qs i ff)) r - xx.2)) = midV qs c (inrow r.1 j (upto qs i ff)) r xx from set_mid1 nd hqr]
        have hl4 : (upd H4 l (.lst (midV qs c (inrow r.1 j (upto qs i ff)) r xx))) l = some (.lst (midV qs c (inrow r.1 j (upto qs i ff)) r xx)) := upd_same
        have e5 : Ex H (upd H4 l (.lst (midV qs c (inrow r.1 j (upto qs i ff)) r xx))) := Ex.mut (e3.trans e4) hl0
        have hd4 : (upd H4 l (.lst (midV qs c (inrow r.1 j (upto qs i ff)) r xx))) d = some (.dK (numK qs)) := by
          rw [upd_ne hdl]
          exact e4 _ _ hd3
        have hpa4 : SqT K (upd H4 l (.lst (midV qs c (inrow r.1 j (upto qs i ff)) r xx))) pa ((ps'.map V.ref).take (ff r.1)) := st_updL (ex_t e4 hpa) (e4 _ _ hl3)
        generalize upd H4 l (.lst (midV qs c (inrow r.1 j (upto qs i ff)) r xx)) = H5 at hl4 e5 hd4 hpa4
        refine s_augL (fn := fun i j => i + j) (j := m) (σ := [some (.ref a), some (.ref s), some (.ref d), some (.ref l), some (.ref p), some (.int (i : Nat)), some (.str xx.1), some (.int xx.2)]) hl4 (ev_var rfl) (ev_dget (k := Sum.inr xx.1) (ev_var rfl) (ev_var rfl) hd4 (by rw [← ejn]; exact numK_at nd hqj)) (mid_at hqj) (ev_var rfl) fun H6 e6 => ?_
        rw [show (midV qs c (inrow r.1 j (upto qs i ff)) r xx).set m (.int ((held qs c (inrow r.1 j (upto qs i ff)) rj - if rj.1 = r.1 then xx.2 else 0) + xx.2)) = baV qs c (bump (inrow r.1 j (upto qs i ff)) r.1) from set_mid2 nd hqr hgx hqj ejn, inrow_bump]
        refine ⟨_, _, rfl, st_updL (ex_t e6 hpa4) (e6 _ _ hl4), Ex.mut (e5.trans e6) hl0, ?_, upd_same⟩
        rw [upd_ne hdl]
        exact e6 _ _ hd4
      · obtain ⟨z6, z7, rfl, hpa, e3, hd3, hl3⟩ := hP
        have hmin : ((ps'.map V.ref).take (ff r.1)).length = ff r.1 := by
          rw [List.length_take, lps]
          omega
        rw [hmin, upto_out hqr] at hl3
        exact kN _ _ ⟨_, _, _, _, rfl, e3, hd3, hl3⟩
    · obtain ⟨y4, y5, y6, y7, rfl, e, hd', hl'⟩ := hP
      rw [hlen, upto_all] at hl'
      exact s_ret (ev_var rfl) fun H2 e2 => k l H2 hl0 (e.trans e2) (e2 _ _ hl')
end
end NQ
namespace NQ
open PySem PySem.Spec PyProof.Rows L2 Evl
open KQ (Row held drop bump_same bump_ne drop_same drop_ne)
def cashF (qs : List (Row Str)) (z : Str) : Int := ((qs.find? fun r => decide (r.1 = z)).map fun r => r.2.1).getD 0
theorem cashF_at : ∀ {qs : List (Row Str)} {r : Row Str}, (names qs).Nodup → r ∈ qs → cashF qs r.1 = r.2.1
  | q :: qs, r, hn, h => by
    obtain ⟨h1, h2⟩ := List.nodup_cons.mp hn
    unfold cashF
    by_cases e : q.1 = r.1
    · rw [List.find?_cons_of_pos (by simp [e])]
      rcases List.mem_cons.mp h with e2 | e2
      · rw [e2]
        rfl
      · exact absurd (List.mem_map.mpr ⟨r, e2, e.symm⟩) h1
    · rw [List.find?_cons_of_neg (by simp [e])]
      rcases List.mem_cons.mp h with e2 | e2
      · exact absurd (by rw [e2]) e
      · exact cashF_at h2 e2
def total (qs : List (Row Str)) (f : Str → Nat) : Nat := (qs.map fun r => f r.1).sum
theorem total_congr {qs : List (Row Str)} {f g : Str → Nat} (h : ∀ r ∈ qs, f r.1 = g r.1) : total qs f = total qs g := by
  unfold total
  congr 1
  exact List.map_congr_left h
theorem total_bump : ∀ {qs : List (Row Str)} {f : Str → Nat} {r : Row Str}, (names qs).Nodup → r ∈ qs → total qs (KQ.bump f r.1) = total qs f + 1
  | q :: qs, f, r, hn, h => by
    obtain ⟨h1, h2⟩ := List.nodup_cons.mp hn
    have e0 : ∀ g : Str → Nat, total (q :: qs) g = g q.1 + total qs g := fun g => by
      unfold total
      rw [List.map_cons, List.sum_cons]
    rw [e0, e0]
    by_cases e : q.1 = r.1
    · rw [e, bump_same, total_congr (f := KQ.bump f r.1) (g := f) fun y hy => bump_ne fun z => h1 (List.mem_map.mpr ⟨y, hy, z.trans e.symm⟩)]
      omega
    · rcases List.mem_cons.mp h with e2 | e2
      · exact absurd (by rw [e2]) e
      · rw [total_bump h2 e2, bump_ne e]
        omega
theorem total_drop {qs : List (Row Str)} {f : Str → Nat} {r : Row Str} (nd : (names qs).Nodup) (h : r ∈ qs) (h0 : f r.1 ≠ 0) : total qs (drop f r.1) + 1 = total qs f := by
  rw [← total_bump nd h, bump_drop h0]
theorem total_le : ∀ {qs : List (Row Str)} {f : Str → Nat}, (∀ r ∈ qs, f r.1 ≤ 60) → total qs f ≤ 60 * qs.length
  | [], f, _ => Nat.zero_le _
  | q :: qs, f, h => by
    have e0 : total (q :: qs) f = f q.1 + total qs f := by
      unfold total
      rw [List.map_cons, List.sum_cons]
    have h1 := h q List.mem_cons_self
    have h2 := total_le (qs := qs) fun r hr => h r (List.mem_cons_of_mem _ hr)
    rw [e0, List.length_cons]
    omega
theorem WellQ.total {qs : List (Row Str)} (g : WellQ qs) {f : Str → Nat} (w : KQ.Within qs f) : total qs f ≤ 2400 := by
  have h1 := total_le (qs := qs) (f := f) fun r hr => Nat.le_trans (w r hr) (g.len r hr)
  have := g.l40
  omega
/-! ### the least of ints -/
theorem min_of : ∀ (ns : List Int), ns ≠ [] → ∃ (j : Nat) (m : Int), ns[j]? = some m ∧ (∀ y ∈ ns, m ≤ y) ∧ ∀ i y, i < j → ns[i]? = some y → y ≠ m
  | [], h => absurd rfl h
  | [x], _ => ⟨0, x, rfl, fun y hy => by rw [List.mem_singleton.mp hy]; exact Int.le_refl _, fun i y hi _ => absurd hi (Nat.not_lt_zero i)⟩
  | x :: z :: ns, _ => by
    obtain ⟨j, m, h1, h2, h3⟩ := min_of (z :: ns) (by simp)
    by_cases hx : x ≤ m
    · exact ⟨0, x, rfl, fun y hy => by
        rcases List.mem_cons.mp hy with e | e
        · rw [e]; exact Int.le_refl _
        · exact Int.le_trans hx (h2 y e), fun i y hi _ => absurd hi (Nat.not_lt_zero i)⟩
    · refine ⟨j + 1, m, by simpa using h1, fun y hy => ?_, fun i y hi hy => ?_⟩
      · rcases List.mem_cons.mp hy with e | e
        · rw [e]; omega
        · exact h2 y e
      · cases i with
        | zero =>
          cases hy
          omega
        | succ i => exact h3 i y (by omega) (by simpa using hy)
section
variable {K : PySem.W.Frag} {σ : L2.St} {H H' : Hp} {ta tb tc te tx td ty tl : TE} {t u : TT} {x y z v : V} {tr : TA} {D : Ends} {tz : TS}
theorem ev_min {p : Addr} {ns : List Int} {m : Int} (ha : Ev ta σ H (.ref p)) (hp : SqL K H p (ns.map V.int)) (hm : m ∈ ns) (hl : ∀ y ∈ ns, m ≤ y) : Ev (tCB (rMin K) (tCons ta tNil)) σ H (.int m) := fun H1 e Q q => by
  refine ha H1 e _ fun H2 e2 => ⟨p, ns, rfl, ex_l (e.trans e2) hp, List.length_pos_of_mem hm, fun m' h1 h2 => ?_⟩
  have : m' = m := by
    have a1 := h2 m hm
    have a2 := hl m' h1
    omega
  rw [this]
  exact q H2 e2
theorem ev_index {p : Addr} {ns : List Int} {j : Nat} {m : Int} (ha : Ev ta σ H (.ref p)) (hp : SqL K H p (ns.map V.int)) (hb : Ev tb σ H (.int m)) (hj : ns[j]? = some m) (hn : ∀ i y, i < j → ns[i]? = some y → y ≠ m) :
    Ev (tBM K "list" (rIndex K) ta (tCons tb tNil)) σ H (.int (j : Nat)) := fun H1 e Q q => by
  refine ha H1 e _ fun H2 e2 => ⟨Or.inl ⟨rfl, _, ex_l (e.trans e2) hp⟩, ?_⟩
  refine hb H2 (e.trans e2) _ fun H3 e3 => ?_
  refine ⟨p, ns.map V.int, .int m, j, .int m, rfl, rfl, ex_l ((e.trans e2).trans e3) hp, rfl, ?_, by rw [List.getElem?_map, hj]; rfl, by show (m == m) = true; simp, fun i z hi hz => ?_, q H3 (e2.trans e3)⟩
  · rw [List.all_map]
    exact List.all_eq_true.mpr fun _ _ => rfl
  · obtain ⟨y, hy, rfl⟩ := map_at hz
    show (y == m) = false
    exact beq_eq_false_iff_ne.mpr (hn i y hi hy)
theorem el_balA {a s : Addr} {qs : List (Row Str)} {c : Str → Int} {f : Str → Nat} (h : EvA tr σ H [.ref a, .ref s]) (hq : QH H a qs) (g : WellQ qs) (hs : StA H s qs f) (hw : KQ.Within qs f) (hc : ∀ r ∈ qs, c r.1 = r.2.1) : EvL (tCall spBal [] E0 tr) σ H (baV qs c f) := fun H1 e Q q => by
  refine h H1 e _ fun H2 e2 => ?_
  rw [List.append_nil]
  exact ⟨a, s, qs, c, f, rfl, hq.tx (TX.of (e.trans e2)), g, hs.ex (e.trans e2), hw, hc, fun l H' hl e3 hl' => q l H' (fresh_back e2 hl) (e2.trans e3) hl'⟩
theorem el_bal {a s : Addr} {qs : List (Row Str)} {c : Str → Int} {f : Str → Nat} (h : EvA tr σ H [.ref a, .ref s]) (hq : QH H a qs) (g : WellQ qs) (hs : H s = some (.lst (stV qs f))) (hw : KQ.Within qs f) (hc : ∀ r ∈ qs, c r.1 = r.2.1) : EvL (tCall spBal [] E0 tr) σ H (baV qs c f) := el_balA h hq g (Or.inl hs) hw hc
theorem eu_end {a : Addr} {qs : List (Row Str)} (h : EvA tr σ H [.ref a]) (hq : QH H a qs) (l40 : qs.length ≤ 40) : EvU (tCall spEnd [] E0 tr) σ H (qs.map fun r => V.int (r.2.2.length : Nat)) := fun H1 e Q q => by
  refine h H1 e _ fun H2 e2 => ?_
  rw [List.append_nil]
  exact ⟨a, qs, rfl, hq.tx (TX.of (e.trans e2)), l40, fun s H' e3 hs hs' => q s H' (fresh_back e2 hs) (e2.trans e3) hs'⟩
theorem el_listU {xs : List V} (h : EvU te σ H xs) : EvL (tCB (rListS' K) (tCons te tNil)) σ H xs := fun H1 e Q q => by
  refine h H1 e _ fun p H2 hp0 e2 hp => ⟨p, xs, rfl, Or.inr (st_of hp), fun l hl => ?_⟩
  exact q l _ (fresh_back e2 hl) (e2.trans (Ex.new hl)) upd_same
/-- i, j = two new lists -/
theorem q_parLL {i j : Nat} {xs ys : List V} (h1 : EvL ta σ H xs) (h2 : EvL tb σ H ys) (k : ∀ d l H1, H d = none → H l = none → d ≠ l → Ex H H1 → H1 d = some (.lst xs) → H1 l = some (.lst ys) → tz D ((σ.set i (some (.ref d))).set j (some (.ref l))) H1) :
    tSeq (tPar i j (tCons ta (tCons tb tNil))) tz D σ H := h1 H (Ex.refl H) _ fun d H1 hd0 e1 hd => h2 H1 e1 _ fun l H2 hl0 e2 hl => ⟨.ref d, .ref l, rfl, k d l H2 hd0 (fresh_back e1 hl0) (ne_of_none hd hl0) (e1.trans e2) (e2 _ _ hd) hl⟩
end
theorem map_at' {α β : Type} {g : α → β} {l : List α} {i : Nat} {y : β} (h : (l.map g)[i]? = some y) : ∃ x, l[i]? = some x ∧ y = g x := by
  rw [List.getElem?_map] at h
  cases e : l[i]? with
  | none =>
    rw [e] at h
    cases h
  | some x =>
    rw [e] at h
    exact ⟨x, rfl, (Option.some.inj h).symm⟩
theorem Sts.upd {H : Hp} {a s b l : Addr} {qs : List (Row Str)} {c : Str → Int} {f : Str → Nat} {xs : List V} {o : HO} (h : Sts H a s b qs c f) (hl : H l = some (.lst xs)) (n1 : l ≠ s) (n2 : l ≠ b) : Sts (upd H l o) a s b qs c f :=
  ⟨h.q.tx (TX.updL hl), h.l40, h.nd, by rw [upd_ne n1.symm]; exact h.st, by rw [upd_ne n2.symm]; exact h.ba, h.ne⟩
section
variable {K : PySem.W.Frag} {σ : L2.St} {H H' : Hp} {ta tb : TE} {tr : TA} {D : Ends} {tz : TS}
theorem q_dropC {sp : Sp} {vs : List V} (h : EvA tr σ H vs) (k : ∀ H1, Ex H H1 → sp vs H1 (fun _ H2 => tz D σ H2) E0) : tSeq (tDrop (tCall sp [] E0 tr)) tz D σ H := h H (Ex.refl H) _ fun H1 e => by
  rw [List.append_nil]
  exact k H1 e
theorem eu_tupQ {xs : List V} (ha : EvQL K ta σ H xs) : EvU (tCB (rTupS K) (tCons ta tNil)) σ H xs := fun H1 e Q q => by
  refine ha H1 e _ fun p H2 e2 hp => ?_
  exact ⟨p, xs, rfl, Or.inl ⟨hp, fun l hl => q l _ (fresh_back e2 hl) (e2.trans (Ex.new hl)) upd_same⟩⟩
theorem gv_tupUU {xs ys : List V} (h1 : EvU ta σ H xs) (h2 : EvU tb σ H ys) : Gv (tTup (tCons ta (tCons tb tNil))) σ H (fun v H2 => ∃ p q1 q2, v = .ref p ∧ H2 p = some (.tup [.ref q1, .ref q2]) ∧ H2 q1 = some (.tup xs) ∧ H2 q2 = some (.tup ys)) := fun H1 e Q q => by
  refine h1 H1 e _ fun q1 H2 _ e2 hq1 => h2 H2 (e.trans e2) _ fun q2 H3 _ e3 hq2 => ⟨by show 2 ≤ sizeLine; decide, fun p hp => ?_⟩
  have e4 : Ex H3 (upd H3 p (.tup [.ref q1, .ref q2])) := Ex.new hp
  exact q _ _ ((e2.trans e3).trans e4) ⟨p, q1, q2, rfl, upd_same, (e3.trans e4) _ _ hq1, e4 _ _ hq2⟩
end
/-- the two tuples that a walk returns: names, the state -/
def WalkH (H : Hp) (p : Addr) (qs : List (Row Str)) (ws : List Str) (f : Str → Nat) : Prop := ∃ q1 q2, H p = some (.tup [.ref q1, .ref q2]) ∧ H q1 = some (.tup (ws.map V.str)) ∧ StH H q2 qs f
def spRet : Sp := fun vs H Q _ => ∃ a qs, vs = [.ref a] ∧ QH H a qs ∧ WellQ qs ∧ (∀ r ∈ qs, 0 ≤ r.2.1) ∧ ∀ f p ws H', KQ.Great qs (cashF qs) f → KQ.Backs qs (cashF qs) (KQ.lenOf qs) ws f → ws.length ≤ 2400 → Ex H H' → WalkH H' p qs ws f → Q (.ref p) H'
section
variable {P : Program} {w : World} {K : PySem.W.Frag} {mg : Str → Option Value} {base : Heap} {f : Addr} {fd : FuncData} {aK : Addr} {tk : Tk}
theorem ok_retreat_walk (F : Fun K "retreat_walk" "retreat_walk" s_retreat_walk f fd) (T : Tx K mg aK tk) (c_number_of : Cal P w K mg base CX0 1 "number_of" ["queues"] spNum) (c_end_of_all : Cal P w K mg base CX0 1 "end_of_all" ["queues"] spEnd)
    (c_balance_list : Cal P w K mg base CX0 2 "balance_list" ["queues", "state"] spBal) (c_takes_back : Cal P w K mg base CX0 1 "takes_back" ["queues", "numbers", "state", "balances", "at"] spBack) : FnOk P w K mg base CX0 3 f fd ["queues"] spRet := by
  refine F.ok sc_retreat_walk (fun vs H Q E h => ?_) (fun cdv A outer s H vs Q E hr h => ?_)
  · obtain ⟨a, qs, rfl, _⟩ := h
    rfl
  · obtain ⟨a, qs, rfl, hq, g, hc0, k⟩ := h
    have hu := hu_of hr
    refine ⟨_, (pss_cons (ps_par (i := 1) (j := 2) (by rfl) sc_retreat_walk.nd rfl rfl (by decide) rfl rfl (pa_cons (pe_cl c_number_of hr (by decide) (by rfl) (pa_cons (pv 0) pa_nil)) (pa_cons (pe_callTy (crList (K := K) rfl) (by rfl) T.list (by decide +kernel) (pa_cons (pe_cl c_end_of_all hr (by decide) (by rfl) (pa_cons (pv 0) pa_nil)) pa_nil)) pa_nil)) (by rfl))
      (pss_cons (ps_par (i := 3) (j := 4) (by rfl) sc_retreat_walk.nd rfl rfl (by decide) rfl rfl (pa_cons (pe_cl c_balance_list hr (by decide) (by rfl) (pa_cons (pv 0) (pa_cons (pv 2) pa_nil))) (pa_cons (pe_lst pa_nil) pa_nil)) (by rfl))
      (pss_cons (ps_while PassesOwn.never (pt_cmpR op_lt (pe_callB (crMin (K := K) rfl rfl) (by rfl) T.min (by decide +kernel) (pa_cons (pv 3) pa_nil)) pe_int (nomark _))
        (pss_cons (ps_set (i := 5) sc_retreat_walk.nd rfl (Or.inl rfl) (pe_bm PySem.F.plainAttrs_list PySem.F.slot_list_index PySem.F.type_list_index (mtIndex (K := K) rfl) (pv 3) (pa_cons (pe_callB (crMin (K := K) rfl rfl) (by rfl) T.min (by decide +kernel) (pa_cons (pv 3) pa_nil)) pa_nil)))
      (pss_cons (ps_expr (pe_cl c_takes_back hr (by decide) (by rfl) (pa_cons (pv 0) (pa_cons (pv 1) (pa_cons (pv 2) (pa_cons (pv 3) (pa_cons (pv 5) pa_nil)))))))
      (pss_one (ps_expr (pe_bm PySem.F.plainAttrs_list PySem.F.slot_list_append PySem.F.type_list_append mt_append (pv 4) (pa_cons (pe_ix (ixT (K := K) rfl) (pe_ix (ixT (K := K) rfl) (pe_ix (ixT (K := K) rfl) (pv 0) pe_int (fun _ _ => rfl)) (pv 5) (fun _ _ => rfl)) pe_int (fun _ _ => rfl)) pa_nil)))))))
      (pss_one (ps_ret (pe_tup (pa_cons (pe_callTy (crTup (K := K) rfl) (by rfl) T.tuple (by decide +kernel) (pa_cons (pv 4) pa_nil)) (pa_cons (pe_callTy (crTup (K := K) rfl) (by rfl) T.tuple (by decide +kernel) (pa_cons (pv 2) pa_nil)) pa_nil)))))))), ?_⟩
    obtain ⟨hb0, ha, ps, hb0', hpr⟩ := id hq
    have nd := g.nd
    have l1 := g.l1
    let f0 : Str → Nat := KQ.lenOf qs
    have hf0 : ∀ r ∈ qs, f0 r.1 = r.2.2.length := fun r hr => KQ.lenOf_at nd hr
    have e0 : (qs.map fun r => V.int (r.2.2.length : Nat)) = stV qs f0 := by
      unfold stV
      exact List.map_congr_left fun r hr => by rw [hf0 r hr]
    have we := el_listU (K := K) (eu_end (σ := [some (.ref a), none, none, none, none, none]) (tr := tCons (tVar 0) tNil) (ea_cons (ev_var rfl) ea_nil) hq g.l40)
    rw [e0] at we
    have ab0 := KQ.above_all qs (cashF qs) hf0
    refine q_parDL (ed_num (ea_cons (ev_var rfl) ea_nil) hq g) we fun d st H1 hd0 hs0 hds e1 hd hst => ?_
    refine q_parLL (el_bal (c := cashF qs) (σ := [some (.ref a), some (.ref d), some (.ref st), none, none, none]) (ea_cons (ev_var rfl) (ea_cons (ev_var rfl) ea_nil)) (hq.tx (TX.of e1)) g hst ab0.1 fun r hr => cashF_at nd hr) (el_lst ea_nil (by decide)) fun ba nm H2 hb2 hn0 hbn e2 hba hnm => ?_
    have e12 := e1.trans e2
    have nsb : st ≠ ba := ne_of_none hst hb2
    have nsn : st ≠ nm := ne_of_none hst hn0
    have pos := g.good
    refine q_while (fun m σ' H' => ∃ (ff : Str → Nat) (ws : List Str) (y5 : Option V), σ' = [some (.ref a), some (.ref d), some (.ref st), some (.ref ba), some (.ref nm), y5] ∧ m = total qs ff ∧ KQ.Above qs (cashF qs) ff ∧ Ex H H' ∧ Sts H' a st ba qs (cashF qs) ff ∧ H' d = some (.dK (numK qs)) ∧ H' nm = some (.lst (ws.map V.str)) ∧ ws.length + m ≤ 2400 ∧ KQ.Backs qs (cashF qs) (KQ.lenOf qs) ws ff)
      (total qs f0) ⟨f0, [], none, rfl, rfl, ab0, e12, ⟨hq.tx (TX.of e12), g.l40, nd, e2 _ _ hst, hba, nsb⟩, e2 _ _ hd, hnm, by have := g.total ab0.1; show 0 + _ ≤ 2400; omega, rfl⟩ fun m σ' H' hP => ?_
    obtain ⟨ff, ws, y5, rfl, rfl, ab, e, S, hd', hn', hws, hbk⟩ := hP
    have eb : baV qs (cashF qs) ff = (qs.map fun r => held qs (cashF qs) ff r).map V.int := by
      unfold baV
      rw [List.map_map]
      rfl
    have hba' := S.ba
    rw [eb] at hba'
    obtain ⟨j, mn, hj, hmin, hfst⟩ := min_of (qs.map fun r => held qs (cashF qs) ff r) (fun z => by
      have := congrArg List.length z
      rw [List.length_map, List.length_nil] at this
      omega)
    obtain ⟨r, hqr, rfl⟩ := map_at' hj
    have hrm := List.mem_of_getElem? hqr
    have emin : ∀ {σ : L2.St} {H3 : Hp}, σ[3]? = some (some (.ref ba)) → Ex H' H3 → Ev (tCB (rMin K) (tCons (tVar 3) tNil)) σ H3 (.int (held qs (cashF qs) ff r)) := fun h3 e3 => ev_min (ev_var h3) (sq_of (e3 _ _ hba')) (List.mem_of_getElem? hj) hmin
    refine ⟨decide (held qs (cashF qs) ff r < 0), et_test (ev_ltV (emin rfl (Ex.refl _)) ev_c), fun hb H3 e3 => ⟨_, fun _ _ h => h, ?_⟩, fun hb H3 e3 => ?_⟩
    · have hneg := of_decide_eq_true hb
      have h0 := KQ.above_pos pos (by rw [cashF_at nd hrm]; exact hc0 r hrm) hneg
      refine q_asg (σ := [some (.ref a), some (.ref d), some (.ref st), some (.ref ba), some (.ref nm), y5]) (ev_index (ev_var rfl) (sq_of (e3 _ _ hba')) (emin rfl e3) hj hfst) fun H4 e4 => ?_
      have e34 := e3.trans e4
      have S4 := S.mono e34
      have hwr := ab.1 r hrm
      obtain ⟨x, hx⟩ := get_of (l := r.2.2) (i := ff r.1 - 1) rfl (by omega)
      refine q_dropC (σ := [some (.ref a), some (.ref d), some (.ref st), some (.ref ba), some (.ref nm), some (.int (j : Nat))]) (ea_cons (ev_var rfl) (ea_cons (ev_var rfl) (ea_cons (ev_var rfl) (ea_cons (ev_var rfl) (ea_cons (ev_var rfl) ea_nil))))) fun H5 e5 => ?_
      refine ⟨a, d, st, ba, qs, cashF qs, ff, j, r, x, rfl, S4.mono e5, (e34.trans e5) _ _ hd', hqr, h0, hx, g.mem r hrm x (List.mem_of_getElem? hx), fun H6 x6 S6 => ?_⟩
      have hn6 : H6 nm = some (.lst (ws.map V.str)) := x6 _ _ ((e34.trans e5) _ _ hn') nsn.symm hbn.symm
      have hd6 : H6 d = some (.dK (numK qs)) := x6 _ _ ((e34.trans e5) _ _ hd') (ne_of hd' S.st (by intro z; cases z)) (ne_of hd' S.ba (by intro z; cases z))
      have e6 : Ex H H6 := ExD.ex (e.trans (e34.trans e5)) x6 hs0 (fresh_back e1 hb2)
      obtain ⟨p, hp⟩ := get_of (l := ps) (i := j) rfl (by rw [paired_len hpr]; exact (List.getElem?_eq_some_iff.mp hqr).1)
      obtain ⟨q', hrow, _⟩ := paired_at hpr hp hqr
      refine s_app (K := K) (v := .str r.1) hn6 (ev_var rfl) (ev_op (ev_op (ev_houses (K := K) (ev_var rfl) (e6 _ _ ha)) (ev_var rfl) (rv_ixT (st_of (e6 _ _ hb0')) (at_of (j := j) rfl (by rw [List.getElem?_map, hp]; rfl)))) ev_c (rv_ixT (st_of (e6 _ _ hrow)) (at_of (j := 0) rfl rfl))) (by rw [List.length_map]; omega) fun H7 e7 => ?_
      have hn7 := e7 _ _ hn6
      have td := total_drop nd hrm h0
      refine ⟨total qs (drop ff r.1), by omega, drop ff r.1, ws ++ [r.1], _, rfl, rfl, KQ.above_step pos ab hrm hneg, Ex.mut (e6.trans e7) (fresh_back e1 hn0), (S6.mono e7).upd hn7 nsn.symm hbn.symm, ?_, by rw [upd_same, List.map_append]; rfl, ?_, hbk.append (KQ.Backs.one hrm h0 hneg)⟩
      · rw [upd_ne (ne_of hd6 hn6 (by intro z; cases z))]
        exact e7 _ _ hd6
      · rw [List.length_append, List.length_singleton]
        omega
    · have hge := of_decide_eq_false hb
      have gr : KQ.Great qs (cashF qs) ff := ⟨ab, fun q hq' => by
        have := hmin _ (List.mem_map.mpr ⟨q, hq', rfl⟩)
        omega⟩
      refine s_retG (gv_tupUU (eu_tupQ (K := K) (eql_ev (ev_var rfl) (sq_of (e3 _ _ hn')))) (eu_tupQ (K := K) (eql_ev (ev_var rfl) (sq_of (e3 _ _ S.st))))) fun v H4 e4 hv => ?_
      obtain ⟨p, q1, q2, rfl, h1, h2, h3⟩ := hv
      exact k ff p ws H4 gr hbk (by omega) (e.trans (e3.trans e4)) ⟨q1, q2, h1, h2, h3⟩
end
end NQ
namespace NQ
open PySem PySem.Spec PyProof.Rows L2 Evl
open KQ (Row held drop bump_same bump_ne drop_same drop_ne)
def spGre : Sp := fun vs H Q _ => ∃ a qs, vs = [.ref a] ∧ QH H a qs ∧ GoodQ qs ∧ ∀ f s H', KQ.Great qs (cashF qs) f → Ex H H' → StH H' s qs f → Q (.ref s) H'
def spRun : Sp := fun vs H Q _ => ∃ a qs, vs = [.ref a] ∧ QH H a qs ∧ WellQ qs ∧ ∀ f p ws H', KQ.Least qs (cashF qs) f → KQ.Steps qs (cashF qs) (fun _ => 0) ws f → ws.length ≤ 2400 → Ex H H' → WalkH H' p qs ws f → Q (.ref p) H'
def spFin : Sp := fun vs H Q _ => ∃ a qs, vs = [.ref a] ∧ QH H a qs ∧ GoodQ qs ∧ ∀ f s H', KQ.Least qs (cashF qs) f → Ex H H' → StH H' s qs f → Q (.ref s) H'
section
variable {K : PySem.W.Frag} {σ : L2.St} {H H' : Hp} {ta tb te : TE} {tr : TA} {D : Ends} {tz : TS}
/-- [0] * n -/
theorem el_rep {n : Nat} {v : V} (ha : EvL ta σ H [v]) (hb : Ev tb σ H (.int (n : Int))) (hn : n ≤ 1000) : EvL (tOp rRep ta tb) σ H (List.replicate n v) := fun H1 e Q q => by
  refine ha H1 e _ fun p H2 _ e2 hp => hb H2 (e.trans e2) _ fun H3 e3 => ?_
  refine ⟨p, n, [v], rfl, rfl, e3 _ _ hp, by omega, by omega, ?_, fun l hl => ?_⟩
  · rw [List.length_singleton, Nat.one_mul]
    exact sz_of (by omega)
  · have e0 : (List.replicate (n : Int).toNat [v]).flatten = List.replicate n v := by
      rw [show (n : Int).toNat = n by omega]
      clear q hp hl hn hb
      induction n with
      | zero => rfl
      | succ n ih => rw [List.replicate_succ, List.flatten_cons, ih]; rfl
    rw [e0]
    exact q l _ (fresh_back (e2.trans e3) hl) ((e2.trans e3).trans (Ex.new hl)) upd_same
theorem el_paying {a s b : Addr} {qs : List (Row Str)} {c : Str → Int} {f : Str → Nat} (h : EvA tr σ H [.ref a, .ref s, .ref b]) (S : Sts H a s b qs c f) : EvL (tCall spPaying [] E0 tr) σ H (ixV (payIx qs c f)) := fun H1 e Q q => by
  refine h H1 e _ fun H2 e2 => ?_
  rw [List.append_nil]
  have S' := S.mono (e.trans e2)
  exact ⟨a, s, b, qs, c, f, rfl, S'.q, S'.l40, Or.inl S'.st, S'.ba, fun l H' hl e3 hl' => q l H' (fresh_back e2 hl) (e2.trans e3) hl'⟩
theorem gv_ret {a : Addr} {qs : List (Row Str)} (h : EvA tr σ H [.ref a]) (hq : QH H a qs) (g : WellQ qs) (hc0 : ∀ r ∈ qs, 0 ≤ r.2.1) : Gv (tCall spRet [] E0 tr) σ H (fun v H2 => ∃ f p ws, v = .ref p ∧ (KQ.Great qs (cashF qs) f ∧ KQ.Backs qs (cashF qs) (KQ.lenOf qs) ws f ∧ ws.length ≤ 2400) ∧ WalkH H2 p qs ws f) := fun H1 e Q q => by
  refine h H1 e _ fun H2 e2 => ?_
  rw [List.append_nil]
  exact ⟨a, qs, rfl, hq.tx (TX.of (e.trans e2)), g, hc0, fun f p ws H' gr hb hl e3 hw => q _ H' (e2.trans e3) ⟨f, p, ws, rfl, ⟨gr, hb, hl⟩, hw⟩⟩
theorem gv_run {a : Addr} {qs : List (Row Str)} (h : EvA tr σ H [.ref a]) (hq : QH H a qs) (g : WellQ qs) : Gv (tCall spRun [] E0 tr) σ H (fun v H2 => ∃ f p ws, v = .ref p ∧ (KQ.Least qs (cashF qs) f ∧ KQ.Steps qs (cashF qs) (fun _ => 0) ws f ∧ ws.length ≤ 2400) ∧ WalkH H2 p qs ws f) := fun H1 e Q q => by
  refine h H1 e _ fun H2 e2 => ?_
  rw [List.append_nil]
  exact ⟨a, qs, rfl, hq.tx (TX.of (e.trans e2)), g, fun f p ws H' gr hb hl e3 hw => q _ H' (e2.trans e3) ⟨f, p, ws, rfl, ⟨gr, hb, hl⟩, hw⟩⟩
/-- te[0] -/
theorem gv_fst {qs : List (Row Str)} {R : List Str → (Str → Nat) → Prop} (h : Gv te σ H (fun v H2 => ∃ f p ws, v = .ref p ∧ R ws f ∧ WalkH H2 p qs ws f)) : Gv (tOp (rIxT K) te (tC (.int 0))) σ H (fun v H2 => ∃ f s ws, v = .ref s ∧ R ws f ∧ H2 s = some (.tup (ws.map V.str))) := fun H1 e Q q => by
  refine h H1 e _ fun v H2 e2 hv => ?_
  obtain ⟨f, p, ws, rfl, hR, q1, q2, h1, h2, h3⟩ := hv
  exact ⟨p, [.ref q1, .ref q2], 0, .ref q1, rfl, rfl, st_of h1, at_of (j := 0) rfl rfl, q _ H2 e2 ⟨f, q1, ws, rfl, hR, h2⟩⟩
/-- te[1] of the two that a walk returns -/
theorem gv_snd {qs : List (Row Str)} {R : List Str → (Str → Nat) → Prop} (h : Gv te σ H (fun v H2 => ∃ f p ws, v = .ref p ∧ R ws f ∧ WalkH H2 p qs ws f)) : Gv (tOp (rIxT K) te (tC (.int 1))) σ H (fun v H2 => ∃ f s ws, v = .ref s ∧ R ws f ∧ StH H2 s qs f) := fun H1 e Q q => by
  refine h H1 e _ fun v H2 e2 hv => ?_
  obtain ⟨f, p, ws, rfl, hR, q1, q2, h1, h2, h3⟩ := hv
  exact ⟨p, [.ref q1, .ref q2], 1, .ref q2, rfl, rfl, st_of h1, at_of (j := 1) rfl rfl, q _ H2 e2 ⟨f, q2, ws, rfl, hR, h3⟩⟩
end
section
variable {P : Program} {w : World} {K : PySem.W.Frag} {mg : Str → Option Value} {base : Heap} {f : Addr} {fd : FuncData} {aK : Addr} {tk : Tk}
theorem ok_greatest_feasible (F : Fun K "greatest_feasible" "greatest_feasible" s_greatest_feasible f fd) (T : Tx K mg aK tk) (c_check_queues : Cal P w K mg base CX0 4 "check_queues" ["queues"] (spN PreQ)) (c_retreat_walk : Cal P w K mg base CX0 3 "retreat_walk" ["queues"] spRet) :
    FnOk P w K mg base CX0 5 f fd ["queues"] spGre := by
  refine F.ok sc_greatest_feasible (fun vs H Q E h => ?_) (fun cdv A outer s H vs Q E hr h => ?_)
  · obtain ⟨a, qs, rfl, _⟩ := h
    rfl
  · obtain ⟨a, qs, rfl, hq, g, k⟩ := h
    have hu := hu_of hr
    refine ⟨_, (pss_cons (ps_expr (pe_cl c_check_queues hr (by decide) (by rfl) (pa_cons (pv 0) pa_nil)))
      (pss_one (ps_ret (pe_ix (ixT (K := K) rfl) (pe_cl c_retreat_walk hr (by decide) (by rfl) (pa_cons (pv 0) pa_nil)) pe_int (fun _ _ => rfl))))), ?_⟩
    refine q_drop (v := .non) (ev_callN (ea_cons (ev_var rfl) ea_nil) fun H1 e1 => ⟨a, qs, rfl, hq.tx (TX.of e1), g⟩) fun H1 e1 => ?_
    refine s_retG (gv_snd (K := K) (gv_ret (ea_cons (ev_var rfl) ea_nil) (hq.tx (TX.of e1)) g.well g.c0)) fun v H2 e2 hv => ?_
    obtain ⟨ff, s, ws, rfl, ⟨gr, _⟩, hs⟩ := hv
    exact k ff s H2 gr (e1.trans e2) hs
theorem ok_final_state (F : Fun K "final_state" "final_state" s_final_state f fd) (T : Tx K mg aK tk) (c_check_queues : Cal P w K mg base CX0 4 "check_queues" ["queues"] (spN PreQ)) (c_run_walk : Cal P w K mg base CX0 3 "run_walk" ["queues"] spRun) :
    FnOk P w K mg base CX0 5 f fd ["queues"] spFin := by
  refine F.ok sc_final_state (fun vs H Q E h => ?_) (fun cdv A outer s H vs Q E hr h => ?_)
  · obtain ⟨a, qs, rfl, _⟩ := h
    rfl
  · obtain ⟨a, qs, rfl, hq, g, k⟩ := h
    have hu := hu_of hr
    refine ⟨_, (pss_cons (ps_expr (pe_cl c_check_queues hr (by decide) (by rfl) (pa_cons (pv 0) pa_nil)))
      (pss_one (ps_ret (pe_ix (ixT (K := K) rfl) (pe_cl c_run_walk hr (by decide) (by rfl) (pa_cons (pv 0) pa_nil)) pe_int (fun _ _ => rfl))))), ?_⟩
    refine q_drop (v := .non) (ev_callN (ea_cons (ev_var rfl) ea_nil) fun H1 e1 => ⟨a, qs, rfl, hq.tx (TX.of e1), g⟩) fun H1 e1 => ?_
    refine s_retG (gv_snd (K := K) (gv_run (ea_cons (ev_var rfl) ea_nil) (hq.tx (TX.of e1)) g.well)) fun v H2 e2 hv => ?_
    obtain ⟨ff, s, ws, rfl, ⟨gr, _⟩, hs⟩ := hv
    exact k ff s H2 gr (e1.trans e2) hs
end
end NQ
namespace NQ
open PySem PySem.Spec PyProof.Rows L2 Evl
open KQ (Row held drop bump_same bump_ne drop_same drop_ne)
theorem ixV_ints (is : List Nat) : ixV is = (is.map fun i => ((i : Nat) : Int)).map V.int := by
  unfold ixV
  rw [List.map_map]
  rfl
theorem payIx_none {qs : List (Row Str)} {c : Str → Int} {f : Str → Nat} (h : payIx qs c f = []) : KQ.Stable qs c f := fun r hr x hx => by
  obtain ⟨i, hi, e⟩ := List.mem_iff_getElem.mp hr
  have hq : qs[i]? = some r := by rw [List.getElem?_eq_getElem hi, e]
  have h1 : ¬ (canPay qs c f r = true) := fun hc => by
    have : i ∈ payIx qs c f := List.mem_filter.mpr ⟨List.mem_range.mpr hi, by rw [getD_of hq]; exact hc⟩
    rw [h] at this
    cases this
  unfold canPay at h1
  rw [hx] at h1
  have := of_decide_eq_false (Bool.not_eq_true _ ▸ h1 : decide (x.2 ≤ held qs c f r) = false)
  omega
theorem payIx_at {qs : List (Row Str)} {c : Str → Int} {f : Str → Nat} {k i : Nat} (h : (payIx qs c f)[k]? = some i) : ∃ r, qs[i]? = some r ∧ canPay qs c f r = true := by
  have hm := List.mem_filter.mp (List.mem_of_getElem? h)
  have hi := List.mem_range.mp hm.1
  obtain ⟨r, hr⟩ := get_of (l := qs) (i := i) rfl hi
  exact ⟨r, hr, by rw [← getD_of (d := rowD) hr]; exact hm.2⟩
theorem canPay_at {qs : List (Row Str)} {c : Str → Int} {f : Str → Nat} {r : Row Str} (h : canPay qs c f r = true) : ∃ x, r.2.2[f r.1]? = some x ∧ x.2 ≤ held qs c f r := by
  unfold canPay at h
  cases hx : r.2.2[f r.1]? with
  | none =>
    rw [hx] at h
    cases h
  | some x =>
    rw [hx] at h
    exact ⟨x, rfl, of_decide_eq_true h⟩
section
variable {P : Program} {w : World} {K : PySem.W.Frag} {mg : Str → Option Value} {base : Heap} {f : Addr} {fd : FuncData} {aK : Addr} {tk : Tk}
theorem ok_run_walk (F : Fun K "run_walk" "run_walk" s_run_walk f fd) (T : Tx K mg aK tk) (c_number_of : Cal P w K mg base CX0 1 "number_of" ["queues"] spNum) (c_balance_list : Cal P w K mg base CX0 2 "balance_list" ["queues", "state"] spBal)
    (c_paying : Cal P w K mg base CX0 1 "paying" ["queues", "state", "balances"] spPaying) (c_pays_next : Cal P w K mg base CX0 1 "pays_next" ["queues", "numbers", "state", "balances", "at"] spPay) : FnOk P w K mg base CX0 3 f fd ["queues"] spRun := by
  refine F.ok sc_run_walk (fun vs H Q E h => ?_) (fun cdv A outer s H vs Q E hr h => ?_)
  · obtain ⟨a, qs, rfl, _⟩ := h
    rfl
  · obtain ⟨a, qs, rfl, hq, g, k⟩ := h
    have hu := hu_of hr
    refine ⟨_, (pss_cons (ps_par (i := 1) (j := 2) (by rfl) sc_run_walk.nd rfl rfl (by decide) rfl rfl (pa_cons (pe_cl c_number_of hr (by decide) (by rfl) (pa_cons (pv 0) pa_nil)) (pa_cons (pe_op op_rep (pe_lst (pa_cons pe_int pa_nil)) (pe_callB (crLen (K := K) rfl) (by rfl) T.len (by decide +kernel) (pa_cons (pe_ix (ixT (K := K) rfl) (pv 0) pe_int (fun _ _ => rfl)) pa_nil))) pa_nil)) (by rfl))
      (pss_cons (ps_par (i := 3) (j := 4) (by rfl) sc_run_walk.nd rfl rfl (by decide) rfl rfl (pa_cons (pe_cl c_balance_list hr (by decide) (by rfl) (pa_cons (pv 0) (pa_cons (pv 2) pa_nil))) (pa_cons (pe_lst pa_nil) pa_nil)) (by rfl))
      (pss_cons (ps_set (i := 5) sc_run_walk.nd rfl (Or.inl rfl) (pe_cl c_paying hr (by decide) (by rfl) (pa_cons (pv 0) (pa_cons (pv 2) (pa_cons (pv 3) pa_nil)))))
      (pss_cons (ps_while PassesOwn.never (pt_cmpR (opNeD (K := K) rfl hr.units) (pv 5) (pe_lst pa_nil) (nomark _))
        (pss_cons (ps_for PassesOwn.never rfl (piLst (K := K) rfl (pv 5)) (pg_name (i := 6) sc_run_walk.nd rfl (Or.inl rfl))
        (pss_cons (ps_set (i := 7) sc_run_walk.nd rfl (Or.inl rfl) (pe_ix (ixT (K := K) rfl) (pe_ix (ixT (K := K) rfl) (pe_ix (ixT (K := K) rfl) (pv 0) pe_int (fun _ _ => rfl)) (pv 6) (fun _ _ => rfl)) pe_int (fun _ _ => rfl)))
      (pss_one (ps_while PassesOwn.never (PW.pt (pw_and (pt_cmpR op_lt (pe_ix (ixL (K := K) rfl) (pv 2) (pv 6) (fun _ _ => rfl)) (pe_callB (crLen (K := K) rfl) (by rfl) T.len (by decide +kernel) (pa_cons (pv 7) pa_nil)) (nomark _)) (pw_and1 (pt_cmpR op_ge (pe_ix (ixL (K := K) rfl) (pv 3) (pv 6) (fun _ _ => rfl)) (pe_ix (ixT (K := K) rfl) (pe_ix (ixT (K := K) rfl) (pv 7) (pe_ix (ixL (K := K) rfl) (pv 2) (pv 6) (fun _ _ => rfl)) (fun _ _ => rfl)) pe_int (fun _ _ => rfl)) (nomark _)))))
        (pss_cons (ps_expr (pe_cl c_pays_next hr (by decide) (by rfl) (pa_cons (pv 0) (pa_cons (pv 1) (pa_cons (pv 2) (pa_cons (pv 3) (pa_cons (pv 6) pa_nil)))))))
      (pss_one (ps_expr (pe_bm PySem.F.plainAttrs_list PySem.F.slot_list_append PySem.F.type_list_append mt_append (pv 4) (pa_cons (pe_ix (ixT (K := K) rfl) (pe_ix (ixT (K := K) rfl) (pe_ix (ixT (K := K) rfl) (pv 0) pe_int (fun _ _ => rfl)) (pv 6) (fun _ _ => rfl)) pe_int (fun _ _ => rfl)) pa_nil)))))))))
      (pss_one (ps_set (i := 5) sc_run_walk.nd rfl (Or.inl rfl) (pe_cl c_paying hr (by decide) (by rfl) (pa_cons (pv 0) (pa_cons (pv 2) (pa_cons (pv 3) pa_nil))))))))
      (pss_one (ps_ret (pe_tup (pa_cons (pe_callTy (crTup (K := K) rfl) (by rfl) T.tuple (by decide +kernel) (pa_cons (pv 4) pa_nil)) (pa_cons (pe_callTy (crTup (K := K) rfl) (by rfl) T.tuple (by decide +kernel) (pa_cons (pv 2) pa_nil)) pa_nil))))))))), ?_⟩
    obtain ⟨hb0, ha, ps, hb0', hpr⟩ := id hq
    have nd := g.nd
    have l1 := g.l1
    have l40 := g.l40
    have hlen : (ps.map V.ref).length = qs.length := by rw [List.length_map, paired_len hpr]
    have e0 : List.replicate qs.length (V.int 0) = stV qs (fun _ => 0) := by
      unfold stV
      rw [List.map_const']
      rfl
    have we := el_rep (σ := [some (.ref a), none, none, none, none, none, none, none]) (H := H) (n := (ps.map V.ref).length) (ta := tLst (tCons (tC (.int 0)) tNil)) (el_lst (ea_cons (ev_c (v := .int 0)) ea_nil) (by show 1 ≤ 100000; omega)) (ev_lenT (K := K) (ev_houses (K := K) (ev_var (i := 0) rfl) ha) (st_of hb0')) (by omega)
    rw [hlen, e0] at we
    have be0 := KQ.below_zero qs (cashF qs)
    refine q_parDL (ed_num (ea_cons (ev_var rfl) ea_nil) hq g) we fun d st H1 hd0 hs0 hds e1 hd hst => ?_
    refine q_parLL (el_bal (c := cashF qs) (σ := [some (.ref a), some (.ref d), some (.ref st), none, none, none, none, none]) (ea_cons (ev_var rfl) (ea_cons (ev_var rfl) ea_nil)) (hq.tx (TX.of e1)) g hst be0.1 fun r hr => cashF_at nd hr) (el_lst ea_nil (by decide)) fun ba nm H2 hb2 hn0 hbn e2 hba hnm => ?_
    have e12 := e1.trans e2
    have nsb : st ≠ ba := ne_of_none hst hb2
    have nsn : st ≠ nm := ne_of_none hst hn0
    have S0 : Sts H2 a st ba qs (cashF qs) (fun _ => 0) := ⟨hq.tx (TX.of e12), g.l40, nd, e2 _ _ hst, hba, nsb⟩
    -- what holds all along
    let R0 : (Str → Nat) → Hp → Prop := fun ff H' => Ex H H' ∧ Sts H' a st ba qs (cashF qs) ff ∧ H' d = some (.dK (numK qs)) ∧ KQ.Below qs (cashF qs) ff ∧ ∃ ws : List Str, H' nm = some (.lst (ws.map V.str)) ∧ ws.length ≤ total qs ff ∧ KQ.Steps qs (cashF qs) (fun _ => 0) ws ff
    have R0m : ∀ {ff H' H''}, R0 ff H' → Ex H' H'' → R0 ff H'' := fun {ff H' H''} h e => by
      obtain ⟨a1, a2, a3, a4, ws, a5, a6⟩ := h
      exact ⟨a1.trans e, a2.mono e, e _ _ a3, a4, ws, e _ _ a5, a6⟩
    refine q_asgL (σ := [some (.ref a), some (.ref d), some (.ref st), some (.ref ba), some (.ref nm), none, none, none]) (el_paying (ea_cons (ev_var rfl) (ea_cons (ev_var rfl) (ea_cons (ev_var rfl) ea_nil))) S0) fun ln0 H3 hl0 e3 hl => ?_
    refine q_while (fun m σ' H' => ∃ ff ln y6 y7, σ' = [some (.ref a), some (.ref d), some (.ref st), some (.ref ba), some (.ref nm), some (.ref ln), y6, y7] ∧ m = 2400 - total qs ff ∧ R0 ff H' ∧ H' ln = some (.lst (ixV (payIx qs (cashF qs) ff))) ∧ ln ≠ st ∧ ln ≠ ba ∧ ln ≠ nm)
      (2400 - total qs fun _ => 0) ⟨_, ln0, none, none, rfl, rfl, ⟨e12.trans e3, S0.mono e3, e3 _ _ (e2 _ _ hd), be0, [], e3 _ _ hnm, Nat.zero_le _, rfl⟩, hl, (ne_of_none S0.st hl0).symm, (ne_of_none S0.ba hl0).symm, (ne_of_none hnm hl0).symm⟩ fun m σ' H' hP => ?_
    obtain ⟨ff, ln, y6, y7, rfl, rfl, hR, hln, n1, n2, n3⟩ := hP
    have htot := g.total hR.2.2.2.1.1
    have wne := ev_neNil (K := K) (σ := [some (.ref a), some (.ref d), some (.ref st), some (.ref ba), some (.ref nm), some (.ref ln), y6, y7]) (H := H') (ta := tVar 5) (xs := ixV (payIx qs (cashF qs) ff)) (ds := ((payIx qs (cashF qs) ff).map fun i => ((i : Nat) : Int)).map PyData.int) (ev_var rfl) hln (by rw [ixV_ints]; exact dp_ints _ _) (fun H1 _ => by rw [ixV_ints]; exact dp_ints _ _) (shaped_ints _)
    refine ⟨_, et_test wne, fun hb H4 e4 => ⟨_, fun _ _ h => h, ?_⟩, fun hb H4 e4 => ?_⟩
    · -- for at in line
      have hne : payIx qs (cashF qs) ff ≠ [] := fun z => by
        rw [z] at hb
        cases hb
      refine q_forL (K := K) (σ := [some (.ref a), some (.ref d), some (.ref st), some (.ref ba), some (.ref nm), some (.ref ln), y6, y7]) (xs := ixV (payIx qs (cashF qs) ff)) (ev_var rfl) (sq_of (e4 _ _ hln))
        (fun i σ' H' => ∃ f1 y6 y7, σ' = [some (.ref a), some (.ref d), some (.ref st), some (.ref ba), some (.ref nm), some (.ref ln), y6, y7] ∧ R0 f1 H' ∧ H' ln = some (.lst (ixV (payIx qs (cashF qs) ff))) ∧ (i = 0 → f1 = ff) ∧ (i ≠ 0 → total qs ff < total qs f1))
        (fun H5 e5 => ⟨ff, y6, y7, rfl, R0m hR (e4.trans e5), (e4.trans e5) _ _ hln, fun _ => rfl, fun z => absurd rfl z⟩) (fun i σ' H' _ hP => ?_) (fun i x σ' H5 hx hP => ?_) (fun σ' H5 hP => ?_)
      · obtain ⟨_, _, _, _, _, h, _⟩ := hP
        exact sq_of h
      · obtain ⟨f1, z6, z7, rfl, hR1, hln1, hz, hnz⟩ := hP
        obtain ⟨at', hat, rfl⟩ := map_at hx
        obtain ⟨r, hqr, hcan⟩ := payIx_at hat
        have hrm := List.mem_of_getElem? hqr
        obtain ⟨p, hp⟩ := get_of (l := ps) (i := at') rfl (by rw [paired_len hpr]; exact (List.getElem?_eq_some_iff.mp hqr).1)
        obtain ⟨q', hrow, ps', hp', hpr'⟩ := paired_at hpr hp hqr
        -- payments = queues[1][at][2]
        refine q_asg (σ := [some (.ref a), some (.ref d), some (.ref st), some (.ref ba), some (.ref nm), some (.ref ln), some (.int (at' : Nat)), z7]) (v := .ref q') (ev_op (ev_op (ev_houses (K := K) (ev_var rfl) (hR1.1 _ _ ha)) (ev_var rfl) (rv_ixT (st_of (hR1.1 _ _ hb0')) (at_of (j := at') rfl (by rw [List.getElem?_map, hp]; rfl)))) ev_c (rv_ixT (st_of (hR1.1 _ _ hrow)) (at_of (j := 2) rfl rfl))) fun H6 e6 => ?_
        refine s_while (fun m σ' H' => ∃ f2, σ' = [some (.ref a), some (.ref d), some (.ref st), some (.ref ba), some (.ref nm), some (.ref ln), some (.int (at' : Nat)), some (.ref q')] ∧ m = 2400 - total qs f2 ∧ R0 f2 H' ∧ H' ln = some (.lst (ixV (payIx qs (cashF qs) ff))) ∧ (f2 = f1 ∨ total qs f1 < total qs f2))
          (2400 - total qs f1) ⟨f1, rfl, rfl, R0m hR1 e6, e6 _ _ hln1, Or.inl rfl⟩ fun m σ' H7 hP => ?_
        obtain ⟨f2, rfl, rfl, hR2, hln2, hor⟩ := hP
        obtain ⟨eH, S2, hd2, be2, ws, hn2, hws, hst2⟩ := id hR2
        have htot2 := g.total be2.1
        have est : Ev (tOp (rIxL K) (tVar 2) (tVar 6)) [some (.ref a), some (.ref d), some (.ref st), some (.ref ba), some (.ref nm), some (.ref ln), some (.int (at' : Nat)), some (.ref q')] H7 (.int (f2 r.1 : Nat)) := ev_op (ev_var rfl) (ev_var rfl) (rv_ixL (sq_of S2.st) (at_of (j := at') rfl (stV_at hqr)))
        refine ⟨canPay qs (cashF qs) f2 r, ?_, fun hb2' H8 e8 => ⟨_, fun _ _ h => h, ?_⟩, fun hb2' H8 e8 => ?_⟩
        · refine et_is (et_and (et_test (ev_ltV est (ev_lenT (ev_var rfl) (st_of (eH _ _ hp'))))) (b := canPay qs (cashF qs) f2 r) fun hlt => ?_) ?_
          · rw [List.length_map, paired_len hpr', decide_eq_true_eq] at hlt
            obtain ⟨x, hx2⟩ := get_of (l := r.2.2) (i := f2 r.1) rfl (by omega)
            obtain ⟨px, hpx⟩ := get_of (l := ps') (i := f2 r.1) (paired_len hpr') (by omega)
            have hxp : H px = some (.tup [.str x.1, .int x.2]) := paired_at hpr' hpx hx2
            refine et_is (et_test (ev_geV (i := held qs (cashF qs) f2 r) (j := x.2) (ev_op (ev_var rfl) (ev_var rfl) (rv_ixL (sq_of S2.ba) (at_of (j := at') rfl (baV_at hqr)))) (ev_op (ev_op (ev_var rfl) est (rv_ixT (st_of (eH _ _ hp')) (at_of (j := f2 r.1) rfl (by rw [List.getElem?_map, hpx]; rfl)))) ev_c (rv_ixT (st_of (eH _ _ hxp)) (at_of (j := 1) rfl rfl))))) ?_
            unfold canPay
            rw [hx2]
          · rw [List.length_map, paired_len hpr']
            unfold canPay
            cases hx2 : r.2.2[f2 r.1]? with
            | none => simp
            | some x =>
              have := (List.getElem?_eq_some_iff.mp hx2).1
              rw [decide_eq_true (by omega), Bool.true_and]
        · obtain ⟨x, hx2, hpay⟩ := canPay_at hb2'
          refine q_dropC (σ := [some (.ref a), some (.ref d), some (.ref st), some (.ref ba), some (.ref nm), some (.ref ln), some (.int (at' : Nat)), some (.ref q')]) (ea_cons (ev_var rfl) (ea_cons (ev_var rfl) (ea_cons (ev_var rfl) (ea_cons (ev_var rfl) (ea_cons (ev_var rfl) ea_nil))))) fun H9 e9 => ?_
          have e79 := e8.trans e9
          refine ⟨a, d, st, ba, qs, cashF qs, f2, at', r, x, rfl, S2.mono e79, e79 _ _ hd2, hqr, hx2, g.mem r hrm x (List.mem_of_getElem? hx2), fun H10 x10 S10 => ?_⟩
          have hn10 : H10 nm = some (.lst (ws.map V.str)) := x10 _ _ (e79 _ _ hn2) nsn.symm hbn.symm
          have hl10 : H10 ln = some (.lst (ixV (payIx qs (cashF qs) ff))) := x10 _ _ (e79 _ _ hln2) n1 n2
          have hd10 : H10 d = some (.dK (numK qs)) := x10 _ _ (e79 _ _ hd2) (ne_of hd2 S2.st (by intro z; cases z)) (ne_of hd2 S2.ba (by intro z; cases z))
          have e10 : Ex H H10 := ExD.ex (eH.trans e79) x10 hs0 (fresh_back e1 hb2)
          refine s_app (K := K) (v := .str r.1) hn10 (ev_var rfl) (ev_op (ev_op (ev_houses (K := K) (ev_var rfl) (e10 _ _ ha)) (ev_var rfl) (rv_ixT (st_of (e10 _ _ hb0')) (at_of (j := at') rfl (by rw [List.getElem?_map, hp]; rfl)))) ev_c (rv_ixT (st_of (e10 _ _ hrow)) (at_of (j := 0) rfl rfl))) (by rw [List.length_map]; omega) fun H11 e11 => ?_
          have hn11 := e11 _ _ hn10
          have tb := total_bump (f := f2) nd hrm
          have be3 := KQ.below_step g.good be2 hrm hx2 hpay
          have htot3 := g.total be3.1
          refine ⟨2400 - total qs (KQ.bump f2 r.1), by omega, KQ.bump f2 r.1, rfl, rfl, ⟨Ex.mut (e10.trans e11) (fresh_back e1 hn0), (S10.mono e11).upd hn11 nsn.symm hbn.symm, ?_, be3, ws ++ [r.1], by rw [upd_same, List.map_append]; rfl, ?_, hst2.append (KQ.Steps.one hrm hx2 hpay)⟩, ?_, ?_⟩
          · rw [upd_ne (ne_of hd10 hn10 (by intro z; cases z))]
            exact e11 _ _ hd10
          · rw [List.length_append, List.length_singleton]
            omega
          · rw [upd_ne n3]
            exact e11 _ _ hl10
          · right
            rcases hor with h | h
            · rw [h] at tb ⊢
              omega
            · omega
        · refine ⟨f2, _, _, rfl, R0m hR2 e8, e8 _ _ hln2, fun z => absurd z (Nat.succ_ne_zero i), fun _ => ?_⟩
          by_cases hi : i = 0
          · have e1' := hz hi
            rcases hor with h | h
            · rw [h, e1'] at hb2'
              rw [hcan] at hb2'
              cases hb2'
            · rw [e1'] at h
              exact h
          · have := hnz hi
            rcases hor with h | h
            · rw [h]
              exact this
            · omega
      · -- line = paying(queues, state, balances)
        obtain ⟨f1, z6, z7, rfl, hR1, hln1, hz, hnz⟩ := hP
        have hgt := hnz (by
          unfold ixV
          rw [List.length_map]
          exact fun z => hne (List.eq_nil_of_length_eq_zero z))
        obtain ⟨eH, S1, hd1, be1, ws, hn1, hws, _⟩ := id hR1
        have htot1 := g.total be1.1
        refine s_asgL (σ := [some (.ref a), some (.ref d), some (.ref st), some (.ref ba), some (.ref nm), some (.ref ln), z6, z7]) (el_paying (ea_cons (ev_var rfl) (ea_cons (ev_var rfl) (ea_cons (ev_var rfl) ea_nil))) S1) fun l2 H6 hl2 e6 hl6 => ?_
        exact ⟨2400 - total qs f1, by omega, f1, l2, z6, z7, rfl, rfl, R0m hR1 e6, hl6, (ne_of_none S1.st hl2).symm, (ne_of_none S1.ba hl2).symm, (ne_of_none hn1 hl2).symm⟩
    · have hnil : payIx qs (cashF qs) ff = [] := by
        cases hp : payIx qs (cashF qs) ff with
        | nil => rfl
        | cons x l =>
          rw [hp] at hb
          cases hb
      obtain ⟨eH, S1, hd1, be1, ws, hn1, hws, hst1⟩ := id hR
      refine s_retG (gv_tupUU (eu_tupQ (K := K) (eql_ev (ev_var rfl) (sq_of (e4 _ _ hn1)))) (eu_tupQ (K := K) (eql_ev (ev_var rfl) (sq_of (e4 _ _ S1.st))))) fun v H5 e5 hv => ?_
      obtain ⟨p, q1, q2, rfl, h1, h2, h3⟩ := hv
      exact k ff p ws H5 ⟨be1, payIx_none hnil⟩ hst1 (by have := g.total be1.1; omega) (eH.trans (e4.trans e5)) ⟨q1, q2, h1, h2, h3⟩
end
end NQ
namespace NQ
open PySem PySem.Spec PyProof.Rows L2 Evl
open KQ (Row held drop bump_same bump_ne drop_same drop_ne)
def stI (qs : List (Row Str)) (f : Str → Nat) : List Int := qs.map fun r => ((f r.1 : Nat) : Int)
theorem stV_ints (qs : List (Row Str)) (f : Str → Nat) : stV qs f = (stI qs f).map V.int := by
  unfold stV stI
  rw [List.map_map]
  rfl
theorem stI_eq {qs : List (Row Str)} {f g : Str → Nat} : stI qs f = stI qs g ↔ KQ.EqOn qs f g := by
  unfold stI KQ.EqOn
  rw [List.map_inj_left]
  constructor
  · intro h r hr
    have := h r hr
    omega
  · intro h r hr
    rw [h r hr]
theorem shaped_intsT (ns : List Int) : SeqAt.shaped (.tuple (ns.map PyData.int)) = true := by
  unfold SeqAt.shaped
  rw [PyData.canLay0, canLay_ints, PyData.depth, depth_ints]
  rfl
theorem eqv_intsT (ns ms : List Int) : PyData.eqv (.tuple (ns.map .int)) (.tuple (ms.map .int)) = decide (ns = ms) := by
  rw [PyData.eqv]
  exact PySem.W.ked_eqvAll ns ms
theorem dp_stT {K : PySem.W.Frag} {H : Hp} {s : Addr} {qs : List (Row Str)} {f : Str → Nat} (h : StH H s qs f) : Dp K H (.ref s) (.tuple ((stI qs f).map .int)) := .tup (st_of h) (by rw [stV_ints]; exact dp_ints _ _)
def flowB (qs : List (Row Str)) (f g : Str → Nat) : Bool := decide (stI qs f = stI qs g)
def wordS (b : Bool) : Str := if b then "flows" else "gridlock"
/-- the paper of a gridlock, or of none -/
def GridP (H : Hp) (p : Addr) (qs : List (Row Str)) (f g : Str → Nat) : Prop := ∃ b1 c1 ws, H p = some (.tup [.str (wordS (flowB qs f g)), .ref b1, .ref c1]) ∧ H b1 = some (.tup (ws.map V.str)) ∧ KQ.Backs qs (cashF qs) (KQ.lenOf qs) ws g ∧ ws.length ≤ 2400 ∧
  ((flowB qs f g = true ∧ ∃ vs, H c1 = some (.tup (vs.map V.str)) ∧ KQ.Steps qs (cashF qs) (fun _ => 0) vs f ∧ vs.length ≤ 2400) ∨ (flowB qs f g = false ∧ StH H c1 qs f))
def spGrid : Sp := fun vs H Q _ => ∃ a qs, vs = [.ref a] ∧ QH H a qs ∧ GoodQ qs ∧ ∀ f g p H', KQ.Least qs (cashF qs) f → KQ.Great qs (cashF qs) g → Ex H H' → GridP H' p qs f g → Q (.ref p) H'
def PreHouse : List V → Hp → Prop := fun vs H => ∃ a qs r, vs = [.ref a, .str r.1] ∧ QH H a qs ∧ GoodQ qs ∧ r ∈ qs
section
variable {K : PySem.W.Frag} {σ : L2.St} {H H' : Hp} {ta tb te : TE} {tr : TA} {D : Ends} {tz : TS}
theorem ev_eqSt {s s' : Addr} {qs : List (Row Str)} {f g : Str → Nat} (ha : Ev ta σ H (.ref s)) (hb : Ev tb σ H (.ref s')) (hs : StH H s qs f) (hs' : StH H s' qs g) : Ev (tOp (rEqD K) ta tb) σ H (.bl (flowB qs f g)) := fun H1 e Q q => by
  refine ha H1 e _ fun H2 e2 => hb H2 (e.trans e2) _ fun H3 e3 => ?_
  have e13 := (e.trans e2).trans e3
  refine ⟨_, _, dp_stT (e13 _ _ hs), dp_stT (e13 _ _ hs'), shaped_intsT _, shaped_intsT _, ?_⟩
  rw [eqv_intsT]
  exact q H3 (e2.trans e3)
end
section
variable {P : Program} {w : World} {K : PySem.W.Frag} {mg : Str → Option Value} {base : Heap} {f : Addr} {fd : FuncData} {aK : Addr} {tk : Tk}
theorem ok_gridlock_paper (F : Fun K "gridlock_paper" "gridlock_paper" s_gridlock_paper f fd) (T : Tx K mg aK tk) (c_check_queues : Cal P w K mg base CX0 4 "check_queues" ["queues"] (spN PreQ)) (c_retreat_walk : Cal P w K mg base CX0 3 "retreat_walk" ["queues"] spRet) (c_run_walk : Cal P w K mg base CX0 3 "run_walk" ["queues"] spRun) :
    FnOk P w K mg base CX0 5 f fd ["queues"] spGrid := by
  refine F.ok sc_gridlock_paper (fun vs H Q E h => ?_) (fun cdv A outer s H vs Q E hr h => ?_)
  · obtain ⟨a, qs, rfl, _⟩ := h
    rfl
  · obtain ⟨a, qs, rfl, hq, g, k⟩ := h
    have hu := hu_of hr
    refine ⟨_, (pss_cons (ps_expr (pe_cl c_check_queues hr (by decide) (by rfl) (pa_cons (pv 0) pa_nil)))
      (pss_cons (ps_asg (pe_cl c_retreat_walk hr (by decide) (by rfl) (pa_cons (pv 0) pa_nil)) (pgTup (K := K) (n := 2) rfl rfl (pgs_cons (pg_name (i := 1) sc_gridlock_paper.nd rfl (Or.inl rfl)) (pgs_cons (pg_name (i := 2) sc_gridlock_paper.nd rfl (Or.inl rfl)) pgs_nil))))
      (pss_cons (ps_asg (pe_cl c_run_walk hr (by decide) (by rfl) (pa_cons (pv 0) pa_nil)) (pgTup (K := K) (n := 2) rfl rfl (pgs_cons (pg_name (i := 3) sc_gridlock_paper.nd rfl (Or.inl rfl)) (pgs_cons (pg_name (i := 4) sc_gridlock_paper.nd rfl (Or.inl rfl)) pgs_nil))))
      (pss_one (ps_ret (pe_ifExp (pt_cmpR (opEqD (K := K) rfl hr.units) (pv 4) (pv 2) (nomark _)) (pe_tup (pa_cons pe_str (pa_cons (pv 1) (pa_cons (pv 3) pa_nil)))) (pe_tup (pa_cons pe_str (pa_cons (pv 1) (pa_cons (pv 4) pa_nil)))))))))), ?_⟩
    refine q_drop (v := .non) (ev_callN (ea_cons (ev_var rfl) ea_nil) fun H1 e1 => ⟨a, qs, rfl, hq.tx (TX.of e1), g⟩) fun H1 e1 => ?_
    refine gv_ret (σ := [some (.ref a), none, none, none, none]) (ea_cons (ev_var rfl) ea_nil) (hq.tx (TX.of e1)) g.well g.c0 H1 (Ex.refl _) _ fun v H2 e2 hv => ?_
    obtain ⟨g2, p2, ws, rfl, ⟨gr, hbk, hbl⟩, b1, b2, hp2, hb1, hb2⟩ := hv
    refine ⟨p2, [.ref b1, .ref b2], rfl, st_of hp2, rfl, .ref b1, [.ref b2], rfl, .ref b2, [], rfl, rfl, ?_⟩
    refine gv_run (σ := [some (.ref a), some (.ref b1), some (.ref b2), none, none]) (ea_cons (ev_var rfl) ea_nil) (hq.tx (TX.of (e1.trans e2))) g.well H2 (Ex.refl _) _ fun v H3 e3 hv => ?_
    obtain ⟨g3, p3, ws3, rfl, ⟨le, hst, hsl⟩, c1, c2, hp3, hc1, hc2⟩ := hv
    refine ⟨p3, [.ref c1, .ref c2], rfl, st_of hp3, rfl, .ref c1, [.ref c2], rfl, .ref c2, [], rfl, rfl, ?_⟩
    refine et_test (b := flowB qs g3 g2) (σ := [some (.ref a), some (.ref b1), some (.ref b2), some (.ref c1), some (.ref c2)]) (ev_eqSt (K := K) (ev_var (i := 4) rfl) (ev_var (i := 2) rfl) hc2 (e3 _ _ hb2)) H3 (Ex.refl _) _ fun H4 e4 => ?_
    have e14 := ((e1.trans e2).trans e3).trans e4
    cases hb : flowB qs g3 g2 with
    | true =>
      rw [if_pos rfl]
      refine eu_tup (σ := [some (.ref a), some (.ref b1), some (.ref b2), some (.ref c1), some (.ref c2)]) (H := H4) (vs := [.str "flows", .ref b1, .ref c1]) (ea_cons ev_c (ea_cons (ev_var rfl) (ea_cons (ev_var rfl) ea_nil))) (by show 3 ≤ 100000; omega) H4 (Ex.refl _) _ fun p H5 _ e5 hp => ?_
      refine k g3 g2 p H5 le gr (e14.trans e5) ⟨b1, c1, ws, by rw [hb]; exact hp, (e3.trans (e4.trans e5)) _ _ hb1, hbk, hbl, Or.inl ⟨hb, ws3, (e4.trans e5) _ _ hc1, hst, hsl⟩⟩
    | false =>
      rw [if_neg (by decide)]
      refine eu_tup (σ := [some (.ref a), some (.ref b1), some (.ref b2), some (.ref c1), some (.ref c2)]) (H := H4) (vs := [.str "gridlock", .ref b1, .ref c2]) (ea_cons ev_c (ea_cons (ev_var rfl) (ea_cons (ev_var rfl) ea_nil))) (by show 3 ≤ 100000; omega) H4 (Ex.refl _) _ fun p H5 _ e5 hp => ?_
      refine k g3 g2 p H5 le gr (e14.trans e5) ⟨b1, c2, ws, by rw [hb]; exact hp, (e3.trans (e4.trans e5)) _ _ hb1, hbk, hbl, Or.inr ⟨hb, (e4.trans e5) _ _ hc2⟩⟩
theorem ok_check_house (F : Fun K "check_house" "check_house" s_check_house f fd) (T : Tx K mg aK tk) (c_number_of : Cal P w K mg base CX0 1 "number_of" ["queues"] spNum) : FnOk P w K mg base CX0 2 f fd ["queues", "house"] (spN PreHouse) := by
  refine F.ok sc_check_house (fun vs H Q E h => ?_) (fun cdv A outer s H vs Q E hr h => ?_)
  · obtain ⟨⟨a, qs, r, rfl, _⟩, _⟩ := h
    rfl
  · obtain ⟨⟨a, qs, r, rfl, hq, g, hm⟩, k⟩ := h
    have hu := hu_of hr
    refine ⟨_, (pss_one (ps_if (PW.pt (pw_or (pt_not (pt_val (pe_callB (crIsi (K := K) rfl) (by rfl) T.isinstance (by decide +kernel) (pa_cons (pv 1) (pa_cons (pe_bltn (v := .ty "str") (by rfl) T.str (by decide +kernel) rfl) pa_nil))))) (pw_or1 (pt_cmp (pc_dnotin hu (pv 1) (pe_cl c_number_of hr (by decide) (by rfl) (pa_cons (pv 0) pa_nil))) (by rfl)))))
        (pss_one ps_never)
        pss_nil)), ?_⟩
    obtain ⟨i, hi, e⟩ := List.mem_iff_getElem.mp hm
    have hqr : qs[i]? = some r := by rw [List.getElem?_eq_getElem hi, e]
    have hin := numK_at (asc_nodup g.asc) hqr
    refine s_when (b := false) (et_is (et_or (et_not (et_B (ev_isi (ev_var rfl) ev_c (ClsV.ty _) (fun _ _ => .base (.str r.1)) (kit_ty (b := "str") (r := true) (by decide +kernel))))) fun _ =>
      et_B (ed_dnotin (k := Sum.inr r.1) (ev_var rfl) (ed_num (ea_cons (ev_var rfl) ea_nil) hq g.well))) ?_) (fun z => by cases z) fun _ H1 e1 => k _ _ e1 rfl
    rw [hin]
    rfl
end
end NQ
namespace NQ
open PySem PySem.Spec PyProof.Rows L2 Evl
open KQ (Row held setC Lends Need Reach bump_same bump_ne)
/-! ### the cash of one house told otherwise -/
section
variable {qs : List (Row Str)} {z : Str} {c0 : Int}
theorem recash_names : names (recash z c0 qs) = names qs := by
  show List.map (fun r : Row Str => r.1) (List.map _ qs) = List.map (fun r : Row Str => r.1) qs
  rw [List.map_map]
  rfl
theorem recash_st (f : Str → Nat) : stV (recash z c0 qs) f = stV qs f := by
  unfold stV recash
  rw [List.map_map]
  rfl
theorem recash_num : numK (recash z c0 qs) = numK qs := by
  have hl : (recash z c0 qs).length = qs.length := List.length_map ..
  unfold numK
  rw [hl]
  congr 1
  refine List.map_congr_left fun i hi => ?_
  obtain ⟨r, hr⟩ := get_of (l := qs) (i := i) rfl (List.mem_range.mp hi)
  have h2 : (recash z c0 qs)[i]? = some (r.1, (if r.1 = z then c0 else r.2.1), r.2.2) := by unfold recash; rw [List.getElem?_map, hr]; rfl
  rw [getD_of hr, getD_of h2]
theorem recash_mem {q : Row Str} (h : q ∈ recash z c0 qs) : ∃ r ∈ qs, q = (r.1, (if r.1 = z then c0 else r.2.1), r.2.2) := by
  obtain ⟨r, hr, e⟩ := List.mem_map.mp h
  exact ⟨r, hr, e.symm⟩
theorem recash_in {r : Row Str} (h : r ∈ qs) : (r.1, (if r.1 = z then c0 else r.2.1), r.2.2) ∈ recash z c0 qs := List.mem_map.mpr ⟨r, h, rfl⟩
theorem recash_got (f : Str → Nat) (y : Str) : KQ.got (recash z c0 qs) f y = KQ.got qs f y := by
  unfold KQ.got recash
  rw [List.map_map]
  rfl
theorem recash_held (c : Str → Int) (f : Str → Nat) (r : Row Str) (u : Int) : held (recash z c0 qs) c f (r.1, u, r.2.2) = held qs c f r := by
  unfold held
  rw [recash_got]
theorem recash_within {f : Str → Nat} : KQ.Within (recash z c0 qs) f ↔ KQ.Within qs f :=
  ⟨fun h r hr => by
    have := h _ (recash_in (z := z) (c0 := c0) hr)
    exact this, fun h q hq => by
    obtain ⟨r, hr, rfl⟩ := recash_mem hq
    exact h r hr⟩
theorem recash_leq {f g : Str → Nat} : KQ.Leq (recash z c0 qs) f g ↔ KQ.Leq qs f g :=
  ⟨fun h r hr => by
    have := h _ (recash_in (z := z) (c0 := c0) hr)
    exact this, fun h q hq => by
    obtain ⟨r, hr, rfl⟩ := recash_mem hq
    exact h r hr⟩
theorem recash_stable {c : Str → Int} {f : Str → Nat} : KQ.Stable (recash z c0 qs) c f ↔ KQ.Stable qs c f :=
  ⟨fun h r hr x hx => by
    have := h _ (recash_in hr) x hx
    rw [recash_held] at this
    exact this, fun h q hq x hx => by
    obtain ⟨r, hr, rfl⟩ := recash_mem hq
    rw [recash_held]
    exact h r hr x hx⟩
theorem recash_reach {c : Str → Int} {g : Str → Nat} : Reach (recash z c0 qs) c g ↔ Reach qs c g := by
  unfold KQ.Reach
  constructor
  · intro h k wk sk
    exact recash_leq.mp (h k (recash_within.mpr wk) (recash_stable.mpr sk))
  · intro h k wk sk
    exact recash_leq.mpr (h k (recash_within.mp wk) (recash_stable.mp sk))
theorem recash_need {c : Str → Int} {h : Str} {g : Str → Nat} : ∀ {v : Option Int}, Need (recash z c0 qs) c h g v → Need qs c h g v
  | some v, ⟨a, b, d⟩ => ⟨a, recash_reach.mp b, fun u hu k => d u hu (recash_reach.mpr k)⟩
  | none, k => fun u hu q => k u hu (recash_reach.mpr q)
theorem recash_well (g : WellQ qs) : WellQ (recash z c0 qs) := by
  have hl : (recash z c0 qs).length = qs.length := List.length_map ..
  refine ⟨by rw [hl]; exact g.l1, by rw [hl]; exact g.l40, by rw [recash_names]; exact g.nd, fun q hq => ?_, fun q hq => ?_, fun q hq => ?_, fun q hq => ?_⟩
  · obtain ⟨r, hr, rfl⟩ := recash_mem hq
    exact g.pos r hr
  · obtain ⟨r, hr, rfl⟩ := recash_mem hq
    exact g.len r hr
  · obtain ⟨r, hr, rfl⟩ := recash_mem hq
    rw [recash_names]
    exact g.mem r hr
  · obtain ⟨r, hr, rfl⟩ := recash_mem hq
    exact g.ok r hr
theorem recash_good (g : GoodQ qs) (h0 : 0 ≤ c0) (h1 : c0 ≤ 1000000) : GoodQ (recash z c0 qs) := by
  have hl : (recash z c0 qs).length = qs.length := List.length_map ..
  refine ⟨by rw [hl]; exact g.l1, by rw [hl]; exact g.l40, by rw [recash_names]; exact g.asc, fun q hq => ?_, fun q hq => ?_, fun q hq => ?_, fun q hq => ?_⟩
  · obtain ⟨r, hr, rfl⟩ := recash_mem hq
    exact g.nm r hr
  · obtain ⟨r, hr, rfl⟩ := recash_mem hq
    show 0 ≤ if r.1 = z then c0 else r.2.1
    split
    · exact h0
    · exact g.c0 r hr
  · obtain ⟨r, hr, rfl⟩ := recash_mem hq
    show (if r.1 = z then c0 else r.2.1) ≤ 1000000
    split
    · exact h1
    · exact g.cM r hr
  · obtain ⟨r, hr, rfl⟩ := recash_mem hq
    rw [recash_names]
    exact g.pay r hr
theorem recash_cash (nd : (names qs).Nodup) : ∀ q ∈ recash z c0 qs, setC (cashF qs) z c0 q.1 = q.2.1 := fun q hq => by
  obtain ⟨r, hr, rfl⟩ := recash_mem hq
  unfold KQ.setC
  show (if r.1 = z then c0 else cashF qs r.1) = if r.1 = z then c0 else r.2.1
  rw [cashF_at nd hr]
end
def optV : Option Int → V
  | some d => .int d
  | none => .non
/-- what needed hands back: the cash, the payments with it, a state that shows that less is not enough -/
def NeedP (H : Hp) (p : Addr) (qs : List (Row Str)) (r : Row Str) (goal : Str → Nat) (v : Option Int) : Prop := ∃ q1 z ws, H p = some (.tup [optV v, .ref q1, z]) ∧ H q1 = some (.tup (ws.map V.str)) ∧ ws.length ≤ 2400 ∧
  match v with
  | some u => (∃ f, KQ.Steps qs (setC (cashF qs) r.1 u) (fun _ => 0) ws f ∧ KQ.Leq qs goal f) ∧ ((u = 0 ∧ z = .non) ∨ (0 < u ∧ ∃ tl g, z = .ref tl ∧ StH H tl qs g ∧ KQ.Within qs g ∧ KQ.Stable qs (setC (cashF qs) r.1 (u - 1)) g ∧ ¬ KQ.Leq qs goal g))
  | none => ∃ tl g, z = .ref tl ∧ StH H tl qs g ∧ KQ.Within qs g ∧ g r.1 = r.2.2.length ∧ (∀ u, KQ.Stable qs (setC (cashF qs) r.1 u) g) ∧ ¬ KQ.Leq qs goal g
def spNeeded : Sp := fun vs H Q _ => ∃ a gl qs r goal, vs = [.ref a, .str r.1, .ref gl] ∧ QH H a qs ∧ WellQ qs ∧ r ∈ qs ∧ StH H gl qs goal ∧ KQ.Within qs goal ∧ ∀ v p H', Need qs (cashF qs) r.1 goal v → Ex H H' → NeedP H' p qs r goal v → Q (.ref p) H'
def spNeed : Sp := fun vs H Q _ => ∃ a gl qs r goal, vs = [.ref a, .str r.1, .ref gl] ∧ QH H a qs ∧ GoodQ qs ∧ r ∈ qs ∧ StH H gl qs goal ∧ KQ.Within qs goal ∧ ∀ v H', Need qs (cashF qs) r.1 goal v → Ex H H' → Q (optV v) H'
section
variable {K : PySem.W.Frag} {σ : L2.St} {H H' : Hp} {te : TE} {tr : TA}
theorem gv_needed {a gl : Addr} {qs : List (Row Str)} {r : Row Str} {goal : Str → Nat} (h : EvA tr σ H [.ref a, .str r.1, .ref gl]) (hq : QH H a qs) (g : WellQ qs) (hm : r ∈ qs) (hg : StH H gl qs goal) (hw : KQ.Within qs goal) :
    Gv (tCall spNeeded [] E0 tr) σ H (fun v H2 => ∃ o p, v = .ref p ∧ Need qs (cashF qs) r.1 goal o ∧ NeedP H2 p qs r goal o) := fun H1 e Q q => by
  refine h H1 e _ fun H2 e2 => ?_
  rw [List.append_nil]
  exact ⟨a, gl, qs, r, goal, rfl, hq.tx (TX.of (e.trans e2)), g, hm, (e.trans e2) _ _ hg, hw, fun v p H5 hn e5 hp => q _ H5 (e2.trans e5) ⟨v, p, rfl, hn, hp⟩⟩
theorem gv_first {qs : List (Row Str)} {r : Row Str} {goal : Str → Nat} {R : Option Int → Prop} (h : Gv te σ H (fun v H2 => ∃ o p, v = .ref p ∧ R o ∧ NeedP H2 p qs r goal o)) : Gv (tOp (rIxT K) te (tC (.int 0))) σ H (fun v _ => ∃ o, v = optV o ∧ R o) := fun H1 e Q q => by
  refine h H1 e _ fun v H2 e2 hv => ?_
  obtain ⟨o, p, rfl, hR, q1, z, ws, hp, _⟩ := hv
  exact ⟨p, [optV o, .ref q1, z], 0, optV o, rfl, rfl, st_of hp, at_of (j := 0) rfl rfl, q _ H2 e2 ⟨o, rfl, hR⟩⟩
end
section
variable {P : Program} {w : World} {K : PySem.W.Frag} {mg : Str → Option Value} {base : Heap} {f : Addr} {fd : FuncData} {aK : Addr} {tk : Tk}
theorem ok_needed_cash (F : Fun K "needed_cash" "needed_cash" s_needed_cash f fd) (T : Tx K mg aK tk) (c_check_queues : Cal P w K mg base CX0 4 "check_queues" ["queues"] (spN PreQ)) (c_check_house : Cal P w K mg base CX0 2 "check_house" ["queues", "house"] (spN PreHouse))
    (c_check_state : Cal P w K mg base CX0 3 "check_state" ["queues", "state"] (spN PreSt)) (c_needed : Cal P w K mg base CX0 3 "needed" ["queues", "house", "goal"] spNeeded) : FnOk P w K mg base CX0 5 f fd ["queues", "house", "goal"] spNeed := by
  refine F.ok sc_needed_cash (fun vs H Q E h => ?_) (fun cdv A outer s H vs Q E hr h => ?_)
  · obtain ⟨a, gl, qs, r, goal, rfl, _⟩ := h
    rfl
  · obtain ⟨a, gl, qs, r, goal, rfl, hq, g, hm, hg, hw, k⟩ := h
    have hu := hu_of hr
    refine ⟨_, (pss_cons (ps_expr (pe_cl c_check_queues hr (by decide) (by rfl) (pa_cons (pv 0) pa_nil)))
      (pss_cons (ps_expr (pe_cl c_check_house hr (by decide) (by rfl) (pa_cons (pv 0) (pa_cons (pv 1) pa_nil))))
      (pss_cons (ps_expr (pe_cl c_check_state hr (by decide) (by rfl) (pa_cons (pv 0) (pa_cons (pv 2) pa_nil))))
      (pss_one (ps_ret (pe_ix (ixT (K := K) rfl) (pe_cl c_needed hr (by decide) (by rfl) (pa_cons (pv 0) (pa_cons (pv 1) (pa_cons (pv 2) pa_nil)))) pe_int (fun _ _ => rfl))))))), ?_⟩
    refine q_drop (v := .non) (ev_callN (ea_cons (ev_var rfl) ea_nil) fun H1 e1 => ⟨a, qs, rfl, hq.tx (TX.of e1), g⟩) fun H1 e1 => ?_
    refine q_drop (v := .non) (ev_callN (ea_cons (ev_var rfl) (ea_cons (ev_var rfl) ea_nil)) fun H2 e2 => ⟨a, qs, r, rfl, hq.tx (TX.of (e1.trans e2)), g, hm⟩) fun H2 e2 => ?_
    refine q_drop (v := .non) (ev_callN (ea_cons (ev_var rfl) (ea_cons (ev_var rfl) ea_nil)) fun H3 e3 => ⟨a, gl, qs, goal, rfl, hq.tx (TX.of ((e1.trans e2).trans e3)), g.well, ((e1.trans e2).trans e3) _ _ hg, hw⟩) fun H3 e3 => ?_
    have e13 := (e1.trans e2).trans e3
    refine s_retG (gv_first (K := K) (gv_needed (ea_cons (ev_var (i := 0) rfl) (ea_cons (ev_var (i := 1) rfl) (ea_cons (ev_var (i := 2) rfl) ea_nil))) (hq.tx (TX.of e13)) g.well hm (e13 _ _ hg) hw)) fun v H4 e4 hv => ?_
    obtain ⟨o, rfl, hn⟩ := hv
    exact k o H4 hn (e13.trans e4)
end
end NQ
namespace NQ
open PySem PySem.Spec PyProof.Rows L2 Evl
open KQ (Row held setC Lends Need Reach bump_same bump_ne)
section
variable {K : PySem.W.Frag} {σ : L2.St} {H H' : Hp} {ta tb te tk tv : TE} {tr : TA} {D : Ends} {tz : TS} {x y z v : V}
/-- {k: v} -/
theorem ed_disp1 {k : Key} (h1 : Ev tk σ H (kV k)) (h2 : Ev tv σ H v) : EvD (tDisp [(tk, tv)]) σ H [(k, v)] := fun H1 e Q q => by
  intro p hp
  have x1 : Ex H1 (upd H1 p (.dK [])) := Ex.new hp
  refine h1 _ (e.trans x1) _ fun H2 e2 => h2 H2 ((e.trans x1).trans e2) _ fun H3 e3 => ?_
  refine ⟨(e2.trans e3) _ _ upd_same, [(k, v)], rfl, by show 1 ≤ 15; omega, ?_⟩
  exact q p _ hp (Ex.mut (x1.trans (e2.trans e3)) hp) upd_same
/-- x == [] -/
theorem ev_eqNil {p : Addr} {xs : List V} {ds : List PyData} (ha : Ev ta σ H (.ref p)) (hp : H p = some (.lst xs)) (hd : DpAll K H xs ds) (hds : ∀ H1, Ex H H1 → DpAll K H1 xs ds) (hs : SeqAt.shaped (.list ds) = true) : Ev (tOp (rEqD K) ta (tLst tNil)) σ H (.bl xs.isEmpty) := fun H1 e Q q => by
  refine ha H1 e _ fun H2 e2 => ?_
  refine ⟨Nat.zero_le _, fun n hn => ?_⟩
  have x1 : Ex H2 (upd H2 n (.lst [])) := Ex.new hn
  have e3 := (e.trans e2).trans x1
  refine ⟨.list ds, .list [], .lst (sq_of (e3 _ _ hp)) (hds _ e3), .lst (sq_of upd_same) .nil, hs, by decide, ?_⟩
  have eb : PyData.eqv (.list ds) (.list []) = xs.isEmpty := by
    cases xs with
    | nil =>
      cases hd
      rfl
    | cons x r =>
      cases hd
      rfl
  rw [eb]
  exact q _ (e2.trans x1)
end
/-- d, n = rich queues, a new dict -/
theorem gv_rich {K : PySem.W.Frag} {σ : L2.St} {H : Hp} {tq td : TE} {a : Addr} {qs : List (Row Str)} {z : Str} {c : Int} (ha : Ev tq σ H (.ref a)) (hd : EvD td σ H [(Sum.inr z, .int c)]) (hq : QH H a qs) (l40 : qs.length ≤ 40) :
    Gv (tCall spRich [] E0 (tCons tq (tCons td tNil))) σ H (fun v H2 => ∃ a', v = .ref a' ∧ QH H2 a' (recash z c qs)) := fun H1 e Q q => by
  refine ha H1 e _ fun H2 e2 => hd H2 (e.trans e2) _ fun d H3 hd0 e3 hd' => ?_
  exact ⟨a, d, qs, _, _, rfl, hq.tx (TX.of ((e.trans e2).trans e3)), l40, hd', rich_one z c, fun a' H4 e4 h => q _ H4 ((e2.trans e3).trans e4) ⟨a', rfl, h⟩⟩
theorem lends_pay' {qs : List (Row Str)} (G : KQ.Good qs) {c : Str → Int} {h : Str} {goal f : Str → Nat} {v : Int} (L : Lends qs c h goal v f) {r : Row Str} {x : Str × Int} (hr : r ∈ qs) (hx : r.2.2[f r.1]? = some x) (pay : x.2 ≤ held qs (setC c h v) f r) : Lends qs c h goal v (KQ.bump f r.1) := KQ.lends_pay G L hr hx pay
/-- who can pay can pay, however many others have paid -/
theorem can_keep {qs : List (Row Str)} (g : KQ.Good qs) {c : Str → Int} {f : Str → Nat} {r q : Row Str} {x : Str × Int} (hr : r ∈ qs) (hq : q ∈ qs) (hne : q.1 ≠ r.1) (hx : r.2.2[f r.1]? = some x) (h : canPay qs c f q = true) : canPay qs c (KQ.bump f r.1) q = true := by
  obtain ⟨y, hy, hp⟩ := canPay_at h
  have hb := KQ.held_bump (c := c) g.nd hr hq hx
  rw [if_neg hne] at hb
  have h1 := g.pos r hr x (List.mem_of_getElem? hx)
  unfold canPay
  rw [bump_ne hne, hy]
  show decide (y.2 ≤ held qs c (KQ.bump f r.1) q) = true
  rw [hb]
  refine decide_eq_true ?_
  split <;> omega
theorem ev_with {σ : L2.St} {H : Hp} {tr : TA} {s l : Addr} {qs : List (Row Str)} {f g : Str → Nat} (h : EvA tr σ H [.ref s, .ref l]) (hs : StH H s qs f) (hl : StA H l qs g) (l40 : qs.length ≤ 40) : Ev (tCall spWith [] E0 tr) σ H (.bl (qs.all fun r => decide (f r.1 ≤ g r.1))) := fun H1 e Q q => by
  refine h H1 e _ fun H2 e2 => ?_
  rw [List.append_nil]
  exact ⟨s, l, qs, f, g, rfl, (e.trans e2) _ _ hs, hl.ex (e.trans e2), l40, fun H' e3 => q H' (e2.trans e3)⟩
theorem gv_ret3 {σ : L2.St} {H : Hp} {ta tb tc : TE} {x z : V} {ws : List V} (h1 : Ev ta σ H x) (h2 : EvU tb σ H ws) (h3 : Ev tc σ H z) : Gv (tTup (tCons ta (tCons tb (tCons tc tNil)))) σ H (fun v H2 => ∃ p q, v = .ref p ∧ H2 p = some (.tup [x, .ref q, z]) ∧ H2 q = some (.tup ws)) := fun H1 e Q q => by
  refine h1 H1 e _ fun H2 e2 => h2 H2 (e.trans e2) _ fun q1 H3 _ e3 hq1 => h3 H3 ((e.trans e2).trans e3) _ fun H4 e4 => ⟨by show 3 ≤ sizeLine; decide, fun p hp => ?_⟩
  exact q _ _ (((e2.trans e3).trans e4).trans (Ex.new hp)) ⟨p, q1, rfl, upd_same, (e4.trans (Ex.new hp)) _ _ hq1⟩
/-- the last state that was stuck -/
def LastOK (qs : List (Row Str)) (r : Row Str) (goal : Str → Nat) (v : Int) (z : V) (H : Hp) : Prop := (v = 0 ∧ z = .non) ∨ (0 < v ∧ ∃ tl g, z = .ref tl ∧ StH H tl qs g ∧ KQ.Within qs g ∧ KQ.Stable qs (setC (cashF qs) r.1 (v - 1)) g ∧ ¬ KQ.Leq qs goal g)
theorem LastOK.tx {qs : List (Row Str)} {r : Row Str} {goal : Str → Nat} {v : Int} {z : V} {H H' : Hp} (h : LastOK qs r goal v z H) (e : TX H H') : LastOK qs r goal v z H' := by
  rcases h with h | ⟨h0, tl, g, h1, h2, h3⟩
  · exact Or.inl h
  · exact Or.inr ⟨h0, tl, g, h1, e _ _ h2, h3⟩
section
variable {P : Program} {w : World} {K : PySem.W.Frag} {mg : Str → Option Value} {base : Heap} {f : Addr} {fd : FuncData} {aK : Addr} {tk : Tk}
theorem ok_needed (F : Fun K "needed" "needed" s_needed f fd) (T : Tx K mg aK tk) (c_rich : Cal P w K mg base CX0 1 "rich" ["queues", "cash"] spRich) (c_number_of : Cal P w K mg base CX0 1 "number_of" ["queues"] spNum) (c_balance_list : Cal P w K mg base CX0 2 "balance_list" ["queues", "state"] spBal)
    (c_is_within : Cal P w K mg base CX0 1 "is_within" ["one", "other"] spWith) (c_paying : Cal P w K mg base CX0 1 "paying" ["queues", "state", "balances"] spPaying) (c_pays_next : Cal P w K mg base CX0 1 "pays_next" ["queues", "numbers", "state", "balances", "at"] spPay) :
    FnOk P w K mg base CX0 3 f fd ["queues", "house", "goal"] spNeeded := by
  refine F.ok sc_needed (fun vs H Q E h => ?_) (fun cdv A outer s H vs Q E hr h => ?_)
  · obtain ⟨a, gl, qs, r, goal, rfl, _⟩ := h
    rfl
  · obtain ⟨a, gl, qs, r, goal, rfl, hq, g, hrm, hg, hw, k⟩ := h
    have hu := hu_of hr
    refine ⟨_, (pss_cons (ps_par (i := 3) (j := 4) (by rfl) sc_needed.nd rfl rfl (by decide) rfl rfl (pa_cons (pe_cl c_rich hr (by decide) (by rfl) (pa_cons (pv 0) (pa_cons (pe_disp (pps_cons (pv 1) pe_int pps_nil) (by rfl) (by rfl) (fun z => by cases z) (by decide)) pa_nil))) (pa_cons (pe_cl c_number_of hr (by decide) (by rfl) (pa_cons (pv 0) pa_nil)) pa_nil)) (by rfl))
      (pss_cons (ps_asg (pe_tup (pa_cons (pe_dget hu (pv 4) (pv 1) (fun _ _ => rfl)) (pa_cons (pe_op op_rep (pe_lst (pa_cons pe_int pa_nil)) (pe_callB (crLen (K := K) rfl) (by rfl) T.len (by decide +kernel) (pa_cons (pe_ix (ixT (K := K) rfl) (pv 0) pe_int (fun _ _ => rfl)) pa_nil))) (pa_cons pe_int (pa_cons (pe_lst pa_nil) (pa_cons pe_non pa_nil)))))) (pgTup (K := K) (n := 5) rfl rfl (pgs_cons (pg_name (i := 5) sc_needed.nd rfl (Or.inl rfl)) (pgs_cons (pg_name (i := 6) sc_needed.nd rfl (Or.inl rfl)) (pgs_cons (pg_name (i := 7) sc_needed.nd rfl (Or.inl rfl)) (pgs_cons (pg_name (i := 8) sc_needed.nd rfl (Or.inl rfl)) (pgs_cons (pg_name (i := 9) sc_needed.nd rfl (Or.inl rfl)) pgs_nil)))))))
      (pss_cons (ps_set (i := 10) sc_needed.nd rfl (Or.inl rfl) (pe_cl c_balance_list hr (by decide) (by rfl) (pa_cons (pv 3) (pa_cons (pv 6) pa_nil))))
      (pss_cons (ps_while PassesOwn.never (pt_not (pt_val (pe_cl c_is_within hr (by decide) (by rfl) (pa_cons (pv 2) (pa_cons (pv 6) pa_nil)))))
        (pss_cons (ps_set (i := 11) sc_needed.nd rfl (Or.inl rfl) (pe_cl c_paying hr (by decide) (by rfl) (pa_cons (pv 3) (pa_cons (pv 6) (pa_cons (pv 10) pa_nil)))))
      (pss_cut (ps_if (pt_cmpR (opEqD (K := K) rfl hr.units) (pv 11) (pe_lst pa_nil) (nomark _))
        (pss_cons (ps_set (i := 9) sc_needed.nd rfl (Or.inl rfl) (pe_callTy (crTup (K := K) rfl) (by rfl) T.tuple (by decide +kernel) (pa_cons (pv 6) pa_nil)))
      (pss_cons (ps_if (pt_cmpR op_eq (pe_ix (ixL (K := K) rfl) (pv 6) (pv 5) (fun _ _ => rfl)) (pe_callB (crLen (K := K) rfl) (by rfl) T.len (by decide +kernel) (pa_cons (pe_ix (ixT (K := K) rfl) (pe_ix (ixT (K := K) rfl) (pe_ix (ixT (K := K) rfl) (pv 0) pe_int (fun _ _ => rfl)) (pv 5) (fun _ _ => rfl)) pe_int (fun _ _ => rfl)) pa_nil)) (nomark _))
        (pss_one (ps_ret (pe_tup (pa_cons pe_non (pa_cons (pe_callTy (crTup (K := K) rfl) (by rfl) T.tuple (by decide +kernel) (pa_cons (pv 8) pa_nil)) (pa_cons (pv 9) pa_nil))))))
        pss_nil)
      (pss_cons (ps_set (i := 12) sc_needed.nd rfl (Or.inl rfl) (pe_op op_sub (pe_ix (ixT (K := K) rfl) (pe_ix (ixT (K := K) rfl) (pe_ix (ixT (K := K) rfl) (pe_ix (ixT (K := K) rfl) (pe_ix (ixT (K := K) rfl) (pv 0) pe_int (fun _ _ => rfl)) (pv 5) (fun _ _ => rfl)) pe_int (fun _ _ => rfl)) (pe_ix (ixL (K := K) rfl) (pv 6) (pv 5) (fun _ _ => rfl)) (fun _ _ => rfl)) pe_int (fun _ _ => rfl)) (pe_ix (ixL (K := K) rfl) (pv 10) (pv 5) (fun _ _ => rfl))))
      (pss_cons (ps_aug (i := 7) sc_needed.nd rfl (Or.inl rfl) (pv 12) ip_add)
      (pss_cons (ps_augS (pv 10) (pv 5) (getL (K := K) rfl) (pv 12) ip_add set_list)
      (pss_one (ps_set (i := 11) sc_needed.nd rfl (Or.inl rfl) (pe_lst (pa_cons (pv 5) pa_nil)))))))))
        pss_nil)
      (pss_one (ps_for PassesOwn.never rfl (piLst (K := K) rfl (pv 11)) (pg_name (i := 13) sc_needed.nd rfl (Or.inl rfl))
        (pss_cons (ps_expr (pe_cl c_pays_next hr (by decide) (by rfl) (pa_cons (pv 3) (pa_cons (pv 4) (pa_cons (pv 6) (pa_cons (pv 10) (pa_cons (pv 13) pa_nil)))))))
      (pss_one (ps_expr (pe_bm PySem.F.plainAttrs_list PySem.F.slot_list_append PySem.F.type_list_append mt_append (pv 8) (pa_cons (pe_ix (ixT (K := K) rfl) (pe_ix (ixT (K := K) rfl) (pe_ix (ixT (K := K) rfl) (pv 0) pe_int (fun _ _ => rfl)) (pv 13) (fun _ _ => rfl)) pe_int (fun _ _ => rfl)) pa_nil))))))))))
      (pss_one (ps_ret (pe_tup (pa_cons (pv 7) (pa_cons (pe_callTy (crTup (K := K) rfl) (by rfl) T.tuple (by decide +kernel) (pa_cons (pv 8) pa_nil)) (pa_cons (pv 9) pa_nil)))))))))), ?_⟩
    obtain ⟨hb0, ha, ps, hb0', hpr⟩ := id hq
    have nd := g.nd
    have l40 := g.l40
    have hlen : (ps.map V.ref).length = qs.length := by rw [List.length_map, paired_len hpr]
    obtain ⟨i0, hi0, ei0⟩ := List.mem_iff_getElem.mp hrm
    have hqr : qs[i0]? = some r := by rw [List.getElem?_eq_getElem hi0, ei0]
    -- poor, numbers
    refine gv_rich (K := K) (σ := [some (.ref a), some (.str r.1), some (.ref gl), none, none, none, none, none, none, none, none, none, none, none]) (ev_var (i := 0) rfl) (ed_disp1 (k := Sum.inr r.1) (ev_var (i := 1) rfl) (ev_c (v := .int 0))) hq g.l40 H (Ex.refl _) _ fun v0 H1 e1 hv0 => ?_
    obtain ⟨a', rfl, hq'⟩ := hv0
    refine ed_num (σ := [some (.ref a), some (.str r.1), some (.ref gl), none, none, none, none, none, none, none, none, none, none, none]) (ea_cons (ev_var rfl) ea_nil) (hq.tx (TX.of e1)) g H1 (Ex.refl _) _ fun d H2 hd0 e2 hd => ?_
    refine ⟨.ref a', .ref d, rfl, ?_⟩
    have e12 := e1.trans e2
    have hd' := hd
    rw [← recash_num (z := r.1) (c0 := 0)] at hd'
    have ndq : (names (recash r.1 0 qs)).Nodup := by rw [recash_names]; exact nd
    have gq := recash_well (z := r.1) (c0 := 0) g
    have hl' : (recash r.1 0 qs).length = qs.length := List.length_map ..
    have e0 : List.replicate qs.length (V.int 0) = stV (recash r.1 0 qs) (fun _ => 0) := by
      rw [recash_st]
      unfold stV
      rw [List.map_const']
      rfl
    -- at, state, lent, steps, last
    refine ev_dget (σ := [some (.ref a), some (.str r.1), some (.ref gl), some (.ref a'), some (.ref d), none, none, none, none, none, none, none, none, none]) (k := Sum.inr r.1) (ev_var (i := 4) rfl) (ev_var (i := 1) rfl) hd (numK_at nd hqr) H2 (Ex.refl _) _ fun H3 e3 => ?_
    have we := el_rep (σ := [some (.ref a), some (.str r.1), some (.ref gl), some (.ref a'), some (.ref d), none, none, none, none, none, none, none, none, none]) (H := H3) (n := (ps.map V.ref).length) (ta := tLst (tCons (tC (.int 0)) tNil)) (el_lst (ea_cons (ev_c (v := .int 0)) ea_nil) (by show 1 ≤ 100000; omega)) (ev_lenT (K := K) (ev_houses (K := K) (ev_var (i := 0) rfl) ((e12.trans e3) _ _ ha)) (st_of ((e12.trans e3) _ _ hb0'))) (by omega)
    rw [hlen, e0] at we
    refine we H3 (Ex.refl _) _ fun st H4 hs0 e4 hst => ?_
    refine ev_c (v := .int 0) (σ := [some (.ref a), some (.str r.1), some (.ref gl), some (.ref a'), some (.ref d), none, none, none, none, none, none, none, none, none]) (H := H4) H4 (Ex.refl _) _ fun H4b e4b => ?_
    refine el_lst (σ := [some (.ref a), some (.str r.1), some (.ref gl), some (.ref a'), some (.ref d), none, none, none, none, none, none, none, none, none]) (H := H4b) ea_nil (by decide) H4b (Ex.refl _) _ fun sp H5b hp0 e5b hsp => ?_
    refine ev_c (v := .non) (σ := [some (.ref a), some (.str r.1), some (.ref gl), some (.ref a'), some (.ref d), none, none, none, none, none, none, none, none, none]) (H := H5b) H5b (Ex.refl _) _ fun H5 e5c => ?_
    have e5 := e5b.trans e5c
    refine ⟨by show 5 ≤ sizeLine; decide, fun tp htp => ?_⟩
    have e6 : Ex H5 (upd H5 tp (.tup [.int (i0 : Nat), .ref st, .int 0, .ref sp, .non])) := Ex.new htp
    refine ⟨tp, _, rfl, st_of upd_same, rfl, _, _, rfl, _, _, rfl, _, _, rfl, _, _, rfl, _, _, rfl, rfl, ?_⟩
    generalize upd H5 tp (.tup [.int (i0 : Nat), .ref st, .int 0, .ref sp, .non]) = H6 at e6
    have e36 := (e4.trans (e4b.trans e5)).trans e6
    have e16 := e12.trans (e3.trans e36)
    have hst6 := ((e4b.trans e5).trans e6) _ _ hst
    have nss : st ≠ sp := ne_of_none (e4b _ _ hst) hp0
    have fs0 : H st = none := fresh_back (e12.trans e3) hs0
    have fp0 : H sp = none := fresh_back (e12.trans (e3.trans (e4.trans e4b))) hp0
    refine q_asgL (σ := [some (.ref a), some (.str r.1), some (.ref gl), some (.ref a'), some (.ref d), some (.int (i0 : Nat)), some (.ref st), some (.int 0), some (.ref sp), some .non, none, none, none, none])
      (el_bal (c := setC (cashF qs) r.1 0) (ea_cons (ev_var rfl) (ea_cons (ev_var rfl) ea_nil)) (hq'.tx (TX.of (e2.trans (e3.trans e36)))) gq hst6 (fun _ _ => Nat.zero_le _) (recash_cash nd)) fun ba H7 hb7 e7 hba => ?_
    have nsb : st ≠ ba := ne_of_none hst6 hb7
    have nbp : ba ≠ sp := (ne_of_none ((e5c.trans e6) _ _ hsp) hb7).symm
    have fb0 : H ba = none := fresh_back e16 hb7
    have e17 := e16.trans e7
    have S0 : Sts H7 a' st ba (recash r.1 0 qs) (setC (cashF qs) r.1 0) (fun _ => 0) := ⟨hq'.tx (TX.of ((e2.trans (e3.trans e36)).trans e7)), gq.l40, ndq, e7 _ _ hst6, hba, nsb⟩
    let R0 : (Str → Nat) → Int → Hp → Prop := fun f2 v H' => Ex H H' ∧ Sts H' a' st ba (recash r.1 0 qs) (setC (cashF qs) r.1 v) f2 ∧ H' d = some (.dK (numK (recash r.1 0 qs))) ∧ ∃ ws : List Str, H' sp = some (.lst (ws.map V.str)) ∧ ws.length ≤ total (recash r.1 0 qs) f2 ∧ KQ.Steps (recash r.1 0 qs) (setC (cashF qs) r.1 v) (fun _ => 0) ws f2
    have R0m : ∀ {f2 v H' H''}, R0 f2 v H' → Ex H' H'' → R0 f2 v H'' := fun {f2 v H' H''} h e => by
      obtain ⟨a1, a2, a3, ws, a5, a6⟩ := h
      exact ⟨a1.trans e, a2.mono e, e _ _ a3, ws, e _ _ a5, a6⟩
    refine q_while (fun m σ' H' => ∃ (ff : Str → Nat) (v : Int) (y9 y11 y12 y13 : Option V), σ' = [some (.ref a), some (.str r.1), some (.ref gl), some (.ref a'), some (.ref d), some (.int (i0 : Nat)), some (.ref st), some (.int v), some (.ref sp), y9, some (.ref ba), y11, y12, y13] ∧
        m = 2400 - total (recash r.1 0 qs) ff ∧ R0 ff v H' ∧ Lends (recash r.1 0 qs) (cashF qs) r.1 goal v ff ∧ ∃ z9, y9 = some z9 ∧ LastOK qs r goal v z9 H')
      (2400 - total (recash r.1 0 qs) fun _ => 0) ⟨_, 0, some .non, none, none, none, rfl, rfl, ⟨e17, S0, (e3.trans (e36.trans e7)) _ _ hd', [], (e5c.trans (e6.trans e7)) _ _ hsp, Nat.zero_le _, rfl⟩, KQ.lends_begin _ _ _ _, _, rfl, Or.inl ⟨rfl, rfl⟩⟩ fun m σ' H' hP => ?_
    obtain ⟨ff, v, y9, y11, y12, y13, rfl, rfl, hR, L, z9, rfl, hLast⟩ := hP
    obtain ⟨eH, S, hdn, ws, hws, lws, hsteps⟩ := id hR
    have htot := gq.total L.below.1
    have hg' : StH H' gl (recash r.1 0 qs) goal := by
      unfold StH
      rw [recash_st]
      exact eH _ _ hg
    refine ⟨_, et_not (et_B (ev_with (σ := [some (.ref a), some (.str r.1), some (.ref gl), some (.ref a'), some (.ref d), some (.int (i0 : Nat)), some (.ref st), some (.int v), some (.ref sp), some z9, some (.ref ba), y11, y12, y13]) (ea_cons (ev_var rfl) (ea_cons (ev_var rfl) ea_nil)) hg' (Or.inl S.st) gq.l40)), fun hb H8 e8 => ⟨_, fun _ _ h => h, ?_⟩, fun hb H8 e8 => ?_⟩
    · have no : ¬ KQ.Leq (recash r.1 0 qs) goal ff := fun hle => by
        rw [Bool.not_eq_true', List.all_eq_false] at hb
        obtain ⟨q, hq1, hq2⟩ := hb
        exact hq2 (decide_eq_true (hle q hq1))
      refine q_asgL (σ := [some (.ref a), some (.str r.1), some (.ref gl), some (.ref a'), some (.ref d), some (.int (i0 : Nat)), some (.ref st), some (.int v), some (.ref sp), some z9, some (.ref ba), y11, y12, y13]) (el_paying (ea_cons (ev_var rfl) (ea_cons (ev_var rfl) (ea_cons (ev_var rfl) ea_nil))) (S.mono e8)) fun ln H9 hl0 e9 hln => ?_
      have e89 := e8.trans e9
      have S9 := S.mono e89
      have n1 : ln ≠ st := (ne_of_none (e8 _ _ S.st) hl0).symm
      have n2 : ln ≠ ba := (ne_of_none (e8 _ _ S.ba) hl0).symm
      have n3 : ln ≠ sp := (ne_of_none (e8 _ _ hws) hl0).symm
      have wnil := ev_eqNil (K := K) (σ := [some (.ref a), some (.str r.1), some (.ref gl), some (.ref a'), some (.ref d), some (.int (i0 : Nat)), some (.ref st), some (.int v), some (.ref sp), some z9, some (.ref ba), some (.ref ln), y12, y13]) (H := H9) (ta := tVar 11) (xs := ixV (payIx (recash r.1 0 qs) (setC (cashF qs) r.1 v) ff)) (ds := ((payIx (recash r.1 0 qs) (setC (cashF qs) r.1 v) ff).map fun i => ((i : Nat) : Int)).map PyData.int) (ev_var rfl) hln (by rw [ixV_ints]; exact dp_ints _ _) (fun H1 _ => by rw [ixV_ints]; exact dp_ints _ _) (shaped_ints _)
      have hqr' : (recash r.1 0 qs)[i0]? = some (r.1, (if r.1 = r.1 then 0 else r.2.1), r.2.2) := by unfold recash; rw [List.getElem?_map, hqr]; rfl
      refine q_cut (M := fun σ' H' => ∃ (v' : Int) (ln : Addr) (is : List Nat) (Pp : Nat → (Str → Nat) → Prop) (z9 : V) (y12 y13 : Option V), σ' = [some (.ref a), some (.str r.1), some (.ref gl), some (.ref a'), some (.ref d), some (.int (i0 : Nat)), some (.ref st), some (.int v'), some (.ref sp), some z9, some (.ref ba), some (.ref ln), y12, y13] ∧
          R0 ff v' H' ∧ H' ln = some (.lst (ixV is)) ∧ ln ≠ st ∧ ln ≠ ba ∧ ln ≠ sp ∧ is ≠ [] ∧ is.length ≤ 40 ∧ Pp 0 ff ∧
          (∀ k i, is[k]? = some i → ∃ rr, (recash r.1 0 qs)[i]? = some rr ∧ ∀ f2, Pp k f2 → ∃ x, rr.2.2[f2 rr.1]? = some x ∧ x.2 ≤ held (recash r.1 0 qs) (setC (cashF qs) r.1 v') f2 rr ∧ Pp (k + 1) (KQ.bump f2 rr.1)) ∧ (∀ f2, Pp is.length f2 → Lends (recash r.1 0 qs) (cashF qs) r.1 goal v' f2) ∧ LastOK qs r goal v' z9 H') ?_ fun σ' H10 hP => ?_
      · refine s_when (σ := [some (.ref a), some (.str r.1), some (.ref gl), some (.ref a'), some (.ref d), some (.int (i0 : Nat)), some (.ref st), some (.int v), some (.ref sp), some z9, some (.ref ba), some (.ref ln), y12, y13]) (et_test wnil) (fun hb2 H10 e10 => ?_) (fun hb2 H10 e10 => ?_)
        · -- nobody can pay
          have hnil : payIx (recash r.1 0 qs) (setC (cashF qs) r.1 v) ff = [] := by
            cases hp : payIx (recash r.1 0 qs) (setC (cashF qs) r.1 v) ff with
            | nil => rfl
            | cons x l =>
              rw [hp] at hb2
              cases hb2
          have stb := payIx_none hnil
          have S10 := S9.mono e10
          have eH10 := (eH.trans e89).trans e10
          have hrm' : (r.1, (if r.1 = r.1 then 0 else r.2.1), r.2.2) ∈ recash r.1 0 qs := List.mem_of_getElem? hqr'
          have hst0 : (stV (recash r.1 0 qs) ff)[i0]? = some (.int (ff r.1 : Nat)) := stV_at (r := (r.1, (if r.1 = r.1 then 0 else r.2.1), r.2.2)) hqr'
          obtain ⟨p, hp⟩ := get_of (l := ps) (i := i0) rfl (by rw [paired_len hpr]; exact (List.getElem?_eq_some_iff.mp hqr).1)
          obtain ⟨q', hrow, ps', hp', hpr'⟩ := paired_at hpr hp hqr
          -- last = tuple(state)
          refine q_asgU (eu_tupQ (K := K) (eql_ev (ev_var (i := 6) rfl) (sq_of S10.st))) fun tl H11 _ e11 htl => ?_
          have S11 := S10.mono e11
          have htl' : StH H11 tl qs ff := by
            unfold StH
            rw [← recash_st (z := r.1) (c0 := 0)]
            exact htl
          have eH11 := eH10.trans e11
          have epay : ∀ {y11 y12 : Option V} {H3 : Hp}, Ex H11 H3 → Ev (tOp (rIxT K) (tOp (rIxT K) (tOp (rIxT K) (tVar 0) (tC (.int 1))) (tVar 5)) (tC (.int 2))) [some (.ref a), some (.str r.1), some (.ref gl), some (.ref a'), some (.ref d), some (.int (i0 : Nat)), some (.ref st), some (.int v), some (.ref sp), some (.ref tl), some (.ref ba), y11, y12, y13] H3 (.ref q') := fun e3 =>
            ev_op (ev_op (ev_houses (K := K) (ev_var rfl) ((eH11.trans e3) _ _ ha)) (ev_var rfl) (rv_ixT (st_of ((eH11.trans e3) _ _ hb0')) (at_of (j := i0) rfl (by rw [List.getElem?_map, hp]; rfl)))) ev_c (rv_ixT (st_of ((eH11.trans e3) _ _ hrow)) (at_of (j := 2) rfl rfl))
          have est : ∀ {y11 y12 : Option V} {H3 : Hp}, Ex H11 H3 → Ev (tOp (rIxL K) (tVar 6) (tVar 5)) [some (.ref a), some (.str r.1), some (.ref gl), some (.ref a'), some (.ref d), some (.int (i0 : Nat)), some (.ref st), some (.int v), some (.ref sp), some (.ref tl), some (.ref ba), y11, y12, y13] H3 (.int (ff r.1 : Nat)) := fun e3 =>
            ev_op (ev_var rfl) (ev_var rfl) (rv_ixL (sq_of (e3 _ _ S11.st)) (at_of (j := i0) rfl hst0))
          refine q_when (σ := [some (.ref a), some (.str r.1), some (.ref gl), some (.ref a'), some (.ref d), some (.int (i0 : Nat)), some (.ref st), some (.int v), some (.ref sp), some (.ref tl), some (.ref ba), some (.ref ln), y12, y13]) (et_test (ev_eqI (est (Ex.refl _)) (ev_lenT (epay (Ex.refl _)) (st_of (eH11 _ _ hp'))))) (fun hb3 H12 e12c => ?_) (fun hb3 H12 e12c => ?_)
          · have hfull : ff r.1 = r.2.2.length := by
              have := of_decide_eq_true hb3
              rw [List.length_map, paired_len hpr'] at this
              omega
            have hN := recash_need (KQ.lends_none L stb no ndq hrm' rfl hfull)
            refine s_retG (gv_ret3 (σ := [some (.ref a), some (.str r.1), some (.ref gl), some (.ref a'), some (.ref d), some (.int (i0 : Nat)), some (.ref st), some (.int v), some (.ref sp), some (.ref tl), some (.ref ba), some (.ref ln), y12, y13]) (ev_c (v := .non)) (eu_tupQ (K := K) (eql_ev (ev_var (i := 8) rfl) (sq_of ((e89.trans (e10.trans (e11.trans e12c))) _ _ hws)))) (ev_var (i := 9) rfl)) fun v9 H13 e13 hv9 => ?_
            obtain ⟨p, q9, rfl, hp9, hq9⟩ := hv9
            refine k none p H13 hN ((eH11.trans e12c).trans e13) ⟨q9, .ref tl, ws, hp9, hq9, by omega, tl, ff, rfl, (e12c.trans e13) _ _ htl', recash_within.mp L.below.1, hfull, fun u q hq x hx => ?_, fun z => no (recash_leq.mpr z)⟩
            by_cases e : q.1 = r.1
            · have := KQ.row_eq nd hq hrm e
              subst this
              rw [hfull, List.getElem?_eq_none (Nat.le_refl _)] at hx
              cases hx
            · have h1 := (recash_stable.mp stb) q hq x hx
              unfold KQ.held at h1 ⊢
              rw [KQ.setC_ne e] at h1 ⊢
              exact h1
          · have hlt : ff r.1 < r.2.2.length := by
              have h1 := L.below.1 _ hrm'
              have h2 := of_decide_eq_false hb3
              rw [List.length_map, paired_len hpr'] at h2
              have h1 : ff r.1 ≤ r.2.2.length := h1
              omega
            obtain ⟨x, hx⟩ := get_of (l := r.2.2) (i := ff r.1) rfl hlt
            obtain ⟨px, hpx⟩ := get_of (l := ps') (i := ff r.1) (paired_len hpr') hlt
            have hxp : H px = some (.tup [.str x.1, .int x.2]) := paired_at hpr' hpx hx
            obtain ⟨hpos, L2'⟩ := KQ.lends_more gq.good L stb no hrm' rfl hx
            have eheld : held (recash r.1 0 qs) (setC (cashF qs) r.1 v) ff (r.1, (if r.1 = r.1 then 0 else r.2.1), r.2.2) = held qs (setC (cashF qs) r.1 v) ff r := recash_held _ _ _ _
            have S12 := S11.mono e12c
            have eH12 := eH11.trans e12c
            -- loan
            refine q_asg (v := .int (x.2 - held qs (setC (cashF qs) r.1 v) ff r)) (ev_sub (ev_op (ev_op (epay e12c) (est e12c) (rv_ixT (st_of (eH12 _ _ hp')) (at_of (j := ff r.1) rfl (by rw [List.getElem?_map, hpx]; rfl)))) ev_c (rv_ixT (st_of (eH12 _ _ hxp)) (at_of (j := 1) rfl rfl)))
              (ev_op (ev_var (i := 10) rfl) (ev_var (i := 5) rfl) (rv_ixL (sq_of S12.ba) (at_of (j := i0) rfl (by rw [← eheld]; exact baV_at hqr'))))) fun H13 e13 => ?_
            rw [← eheld]
            generalize hloan : x.2 - held (recash r.1 0 qs) (setC (cashF qs) r.1 v) ff (r.1, (if r.1 = r.1 then 0 else r.2.1), r.2.2) = loan at hpos L2' ⊢
            -- lent += loan
            refine q_aug (σ := [some (.ref a), some (.str r.1), some (.ref gl), some (.ref a'), some (.ref d), some (.int (i0 : Nat)), some (.ref st), some (.int v), some (.ref sp), some (.ref tl), some (.ref ba), some (.ref ln), some (.int loan), y13]) (f := fun i j => i + j) (i := 7) (a := v) (b := loan) rfl (ev_var (i := 12) rfl) fun H14 e14 => ?_
            have S14 := S12.mono (e13.trans e14)
            have eH14 := eH12.trans (e13.trans e14)
            -- balances[at] += loan
            refine q_augL (fn := fun i j => i + j) (j := i0) (σ := [some (.ref a), some (.str r.1), some (.ref gl), some (.ref a'), some (.ref d), some (.int (i0 : Nat)), some (.ref st), some (.int (v + loan)), some (.ref sp), some (.ref tl), some (.ref ba), some (.ref ln), some (.int loan), y13]) S14.ba (ev_var rfl) (ev_var rfl) (baV_at hqr') (ev_var (i := 12) rfl) fun H15 e15 => ?_
            have es1 : (baV (recash r.1 0 qs) (setC (cashF qs) r.1 v) ff).set i0 (.int (held (recash r.1 0 qs) (setC (cashF qs) r.1 v) ff (r.1, (if r.1 = r.1 then 0 else r.2.1), r.2.2) + loan)) = baV (recash r.1 0 qs) (setC (cashF qs) r.1 (v + loan)) ff := by
              refine map_set ndq hqr' ?_ fun q hq hn => ?_
              · unfold KQ.held
                rw [KQ.setC_same, KQ.setC_same]
                congr 1
                omega
              · unfold KQ.held
                rw [KQ.setC_ne hn, KQ.setC_ne hn]
            rw [es1]
            have S15 : Sts (upd H15 ba (.lst (baV (recash r.1 0 qs) (setC (cashF qs) r.1 (v + loan)) ff))) a' st ba (recash r.1 0 qs) (setC (cashF qs) r.1 (v + loan)) ff :=
              ⟨(S14.mono e15).q.tx (TX.updL (e15 _ _ S14.ba)), gq.l40, ndq, by rw [upd_ne nsb]; exact e15 _ _ S14.st, upd_same, nsb⟩
            have e9_15 := (e10.trans (e11.trans (e12c.trans (e13.trans (e14.trans e15)))))
            have eH15 : Ex H (upd H15 ba (.lst (baV (recash r.1 0 qs) (setC (cashF qs) r.1 (v + loan)) ff))) := Ex.mut (eH14.trans e15) fb0
            have hd15 : (upd H15 ba (.lst (baV (recash r.1 0 qs) (setC (cashF qs) r.1 (v + loan)) ff))) d = some (.dK (numK (recash r.1 0 qs))) := by
              rw [upd_ne (ne_of (hdn) (S.ba) (by intro z; cases z))]
              exact (e89.trans e9_15) _ _ hdn
            have hsp15 : (upd H15 ba (.lst (baV (recash r.1 0 qs) (setC (cashF qs) r.1 (v + loan)) ff))) sp = some (.lst (ws.map V.str)) := by
              rw [upd_ne nbp.symm]
              exact (e89.trans e9_15) _ _ hws
            have htl16 : TX H11 (upd H15 ba (.lst (baV (recash r.1 0 qs) (setC (cashF qs) r.1 (v + loan)) ff))) := (TX.of (e12c.trans (e13.trans (e14.trans e15)))).trans (TX.updL (e15 _ _ S14.ba))
            generalize upd H15 ba (.lst (baV (recash r.1 0 qs) (setC (cashF qs) r.1 (v + loan)) ff)) = H16 at S15 eH15 hd15 hsp15 htl16
            refine s_asgL (σ := [some (.ref a), some (.str r.1), some (.ref gl), some (.ref a'), some (.ref d), some (.int (i0 : Nat)), some (.ref st), some (.int (v + loan)), some (.ref sp), some (.ref tl), some (.ref ba), some (.ref ln), some (.int loan), y13]) (el_lst (ea_cons (ev_var (i := 5) rfl) ea_nil) (by show 1 ≤ 100000; omega)) fun l2 H17 hl2 e17 hl17 => ?_
            refine ⟨v + loan, l2, [i0], fun kk f2 => f2 = if kk = 0 then ff else KQ.bump ff r.1, .ref tl, _, _, rfl, ⟨eH15.trans e17, S15.mono e17, e17 _ _ hd15, ws, e17 _ _ hsp15, lws, hsteps.more fun q _ => KQ.setC_le (by omega) q.1⟩, hl17, (ne_of_none S15.st hl2).symm, (ne_of_none S15.ba hl2).symm, (ne_of_none hsp15 hl2).symm, by simp, by simp, rfl, fun kk i hi => ?_, fun f2 hf => ?_, Or.inr ⟨by have := L.v0; omega, tl, ff, rfl, (htl16.trans (TX.of e17)) _ _ htl', recash_within.mp L.below.1, fun q hq y hy => ?_, fun z => no (recash_leq.mpr z)⟩⟩
            · obtain ⟨rfl, rfl⟩ : kk = 0 ∧ i = i0 := by
                have hk0 := (List.getElem?_eq_some_iff.mp hi).1
                have : kk = 0 := by
                  rw [List.length_singleton] at hk0
                  omega
                subst this
                exact ⟨rfl, (Option.some.inj hi).symm⟩
              refine ⟨_, hqr', fun f2 hf => ⟨x, ?_, ?_, ?_⟩⟩
              · rw [hf, if_pos rfl]
                exact hx
              · rw [hf, if_pos rfl]
                unfold KQ.held at hloan ⊢
                rw [KQ.setC_same] at hloan ⊢
                omega
              · rw [hf]
                rfl
            · rw [hf, if_neg (by simp)]
              exact L2'
            · have h1 := (recash_stable.mp stb) q hq y hy
              by_cases e : q.1 = r.1
              · have := KQ.row_eq nd hq hrm e
                subst this
                rw [hx] at hy
                cases hy
                rw [recash_held] at hloan
                unfold KQ.held at hloan ⊢
                rw [KQ.setC_same] at hloan ⊢
                omega
              · unfold KQ.held at h1 ⊢
                rw [KQ.setC_ne e] at h1 ⊢
                exact h1
        · have hne : payIx (recash r.1 0 qs) (setC (cashF qs) r.1 v) ff ≠ [] := fun z => by
            rw [z] at hb2
            cases hb2
          have hlen40 : (payIx (recash r.1 0 qs) (setC (cashF qs) r.1 v) ff).length ≤ 40 := by
            unfold payIx idxs
            have := List.length_filter_le (fun i => canPay (recash r.1 0 qs) (setC (cashF qs) r.1 v) ff ((recash r.1 0 qs).getD i rowD)) (List.range (recash r.1 0 qs).length)
            rw [List.length_range] at this
            have := gq.l40
            omega
          have hnd : (payIx (recash r.1 0 qs) (setC (cashF qs) r.1 v) ff).Nodup := List.Nodup.sublist List.filter_sublist List.nodup_range
          refine ⟨v, ln, payIx (recash r.1 0 qs) (setC (cashF qs) r.1 v) ff, fun kk f2 => Lends (recash r.1 0 qs) (cashF qs) r.1 goal v f2 ∧ ∀ j i rr, kk ≤ j → (payIx (recash r.1 0 qs) (setC (cashF qs) r.1 v) ff)[j]? = some i → (recash r.1 0 qs)[i]? = some rr → canPay (recash r.1 0 qs) (setC (cashF qs) r.1 v) f2 rr = true, z9, y12, y13, rfl, R0m hR (e89.trans e10), e10 _ _ hln, n1, n2, n3, hne, hlen40, ⟨L, fun j i rr _ hj hrr => ?_⟩, fun kk i hi => ?_, fun f2 hf => hf.1, hLast.tx (TX.of (e89.trans e10))⟩
          · obtain ⟨r2, hr2, hc2⟩ := payIx_at hj
            rw [hrr] at hr2
            cases hr2
            exact hc2
          · obtain ⟨rr, hrr, _⟩ := payIx_at hi
            refine ⟨rr, hrr, fun f2 hf => ?_⟩
            obtain ⟨x, hx, hpay⟩ := canPay_at (hf.2 kk i rr (Nat.le_refl _) hi hrr)
            have hrrm := List.mem_of_getElem? hrr
            refine ⟨x, hx, hpay, KQ.lends_pay gq.good hf.1 hrrm hx hpay, fun j i2 r2 hj hi2 hr2 => ?_⟩
            refine can_keep gq.good hrrm (List.mem_of_getElem? hr2) (fun z => ?_) hx (hf.2 j i2 r2 (by omega) hi2 hr2)
            have hi2l := (List.getElem?_eq_some_iff.mp hr2).1
            have a1 : (names (recash r.1 0 qs))[i]? = some rr.1 := by rw [List.getElem?_map, hrr]; rfl
            have a2 : (names (recash r.1 0 qs))[i2]? = some r2.1 := by rw [List.getElem?_map, hr2]; rfl
            rw [z, ← a1] at a2
            have := (List.getElem?_inj (by rw [List.length_map]; exact hi2l) ndq).mp a2
            subst this
            have hjl := (List.getElem?_eq_some_iff.mp hi2).1
            have := (List.getElem?_inj hjl hnd).mp (hi2.trans hi.symm)
            omega
      · obtain ⟨v', ln', is, Pp, w9, x12, x13, rfl, hR', hln', m1, m2, m3, hne, h40, hP0, hstep, hend, hLast'⟩ := hP
        refine s_forL (K := K) (σ := [some (.ref a), some (.str r.1), some (.ref gl), some (.ref a'), some (.ref d), some (.int (i0 : Nat)), some (.ref st), some (.int v'), some (.ref sp), some w9, some (.ref ba), some (.ref ln'), x12, x13]) (xs := ixV is) (ev_var rfl) (sq_of hln')
          (fun j σ' H' => ∃ (f2 : Str → Nat) (y13 : Option V), σ' = [some (.ref a), some (.str r.1), some (.ref gl), some (.ref a'), some (.ref d), some (.int (i0 : Nat)), some (.ref st), some (.int v'), some (.ref sp), some w9, some (.ref ba), some (.ref ln'), x12, y13] ∧ R0 f2 v' H' ∧ H' ln' = some (.lst (ixV is)) ∧ Pp j f2 ∧ total (recash r.1 0 qs) f2 = total (recash r.1 0 qs) ff + j ∧ LastOK qs r goal v' w9 H')
          (fun H11 e11 => ⟨ff, x13, rfl, R0m hR' e11, e11 _ _ hln', hP0, rfl, hLast'.tx (TX.of e11)⟩) (fun j σ' H' _ hP => ?_) (fun j x σ' H11 hx hP => ?_) (fun σ' H11 hP => ?_)
        · obtain ⟨_, _, _, _, h, _⟩ := hP
          exact sq_of h
        · obtain ⟨f2, w13, rfl, hR2, hl2, hp2, ht2, hla2⟩ := hP
          obtain ⟨i, hi, rfl⟩ := map_at hx
          obtain ⟨rr, hrr, hs⟩ := hstep j i hi
          obtain ⟨x, hx2, hpay2, hp3⟩ := hs f2 hp2
          have hj := (List.getElem?_eq_some_iff.mp hi).1
          have hrrm := List.mem_of_getElem? hrr
          obtain ⟨eH2, S2, hd2, ws2, hw2, lw2, hst2⟩ := id hR2
          have iq : i < qs.length := by
            have := (List.getElem?_eq_some_iff.mp hrr).1
            omega
          obtain ⟨rq, hrq⟩ := get_of (l := qs) (i := i) rfl iq
          obtain ⟨p, hp⟩ := get_of (l := ps) (i := i) rfl (by rw [paired_len hpr]; exact iq)
          obtain ⟨q', hrow, _⟩ := paired_at hpr hp hrq
          have hrqn : rq.1 = rr.1 := by
            have h2 : (recash r.1 0 qs)[i]? = some (rq.1, (if rq.1 = r.1 then 0 else rq.2.1), rq.2.2) := by unfold recash; rw [List.getElem?_map, hrq]; rfl
            rw [h2] at hrr
            rw [← Option.some.inj hrr]
          refine q_dropC (σ := [some (.ref a), some (.str r.1), some (.ref gl), some (.ref a'), some (.ref d), some (.int (i0 : Nat)), some (.ref st), some (.int v'), some (.ref sp), some w9, some (.ref ba), some (.ref ln'), x12, some (.int (i : Nat))]) (ea_cons (ev_var rfl) (ea_cons (ev_var rfl) (ea_cons (ev_var rfl) (ea_cons (ev_var rfl) (ea_cons (ev_var rfl) ea_nil))))) fun H12 e12b => ?_
          refine ⟨a', d, st, ba, recash r.1 0 qs, setC (cashF qs) r.1 v', f2, i, rr, x, rfl, S2.mono e12b, e12b _ _ hd2, hrr, hx2, gq.mem rr hrrm x (List.mem_of_getElem? hx2), fun H13 x13b S13 => ?_⟩
          have hs13 : H13 sp = some (.lst (ws2.map V.str)) := x13b _ _ (e12b _ _ hw2) nss.symm nbp.symm
          have hl13 : H13 ln' = some (.lst (ixV is)) := x13b _ _ (e12b _ _ hl2) m1 m2
          have hd13 : H13 d = some (.dK (numK (recash r.1 0 qs))) := x13b _ _ (e12b _ _ hd2) (ne_of hd2 S2.st (by intro z; cases z)) (ne_of hd2 S2.ba (by intro z; cases z))
          have e13 : Ex H H13 := ExD.ex (eH2.trans e12b) x13b fs0 fb0
          refine s_app (K := K) (v := .str rq.1) hs13 (ev_var rfl) (ev_op (ev_op (ev_houses (K := K) (ev_var rfl) (e13 _ _ ha)) (ev_var rfl) (rv_ixT (st_of (e13 _ _ hb0')) (at_of (j := i) rfl (by rw [List.getElem?_map, hp]; rfl)))) ev_c (rv_ixT (st_of (e13 _ _ hrow)) (at_of (j := 0) rfl rfl))) (by rw [List.length_map]; omega) fun H14 e14 => ?_
          have hs14 := e14 _ _ hs13
          have tb := total_bump (f := f2) ndq hrrm
          refine ⟨KQ.bump f2 rr.1, _, rfl, ⟨Ex.mut (e13.trans e14) fp0, (S13.mono e14).upd hs14 nss.symm nbp.symm, ?_, ws2 ++ [rr.1], by rw [upd_same, List.map_append, ← hrqn]; rfl, ?_, hst2.append (KQ.Steps.one hrrm hx2 hpay2)⟩, ?_, hp3, by omega, hla2.tx (((TX.of e12b).trans (x13b.tx (e12b _ _ S2.st) (e12b _ _ S2.ba))).trans ((TX.of e14).trans (TX.updL hs14)))⟩
          · rw [upd_ne (ne_of hd13 hs13 (by intro z; cases z))]
            exact e14 _ _ hd13
          · rw [List.length_append, List.length_singleton]
            omega
          · rw [upd_ne m3]
            exact e14 _ _ hl13
        · obtain ⟨f2, w13, rfl, hR2, hl2, hp2, ht2, hla2⟩ := hP
          have hli : (ixV is).length = is.length := List.length_map ..
          have hpos := List.length_pos_iff.mpr hne
          have L2' := hend f2 (by rw [← hli]; exact hp2)
          have ht3 := gq.total L2'.below.1
          exact ⟨2400 - total (recash r.1 0 qs) f2, by omega, f2, v', _, _, _, _, rfl, rfl, hR2, L2', _, rfl, hla2⟩
    · have yes : KQ.Leq (recash r.1 0 qs) goal ff := fun q hq => by
        rw [Bool.not_eq_false'] at hb
        exact of_decide_eq_true (List.all_eq_true.mp hb q hq)
      have hN := recash_need (KQ.lends_done L yes)
      refine s_retG (gv_ret3 (σ := [some (.ref a), some (.str r.1), some (.ref gl), some (.ref a'), some (.ref d), some (.int (i0 : Nat)), some (.ref st), some (.int v), some (.ref sp), some z9, some (.ref ba), y11, y12, y13]) (ev_var (i := 7) rfl) (eu_tupQ (K := K) (eql_ev (ev_var (i := 8) rfl) (sq_of (e8 _ _ hws)))) (ev_var (i := 9) rfl)) fun v9 H9 e9 hv9 => ?_
      obtain ⟨p, q9, rfl, hp9, hq9⟩ := hv9
      exact k (some v) p H9 hN (eH.trans (e8.trans e9)) ⟨q9, z9, ws, hp9, hq9, by omega, ⟨ff, KQ.mc_steps.mp hsteps, recash_leq.mp yes⟩, hLast.tx (TX.of (e8.trans e9))⟩
end
end NQ
namespace NQ
open PySem PySem.Spec PyProof.Rows L2 Evl
open KQ (Row held bump drop bump_same bump_ne drop_same drop_ne)
def spPayers : Sp := fun vs H Q _ => ∃ a s qs f, vs = [.ref a, .ref s] ∧ QH H a qs ∧ WellQ qs ∧ StA H s qs f ∧ KQ.Within qs f ∧ ∀ l H', H l = none → Ex H H' → H' l = some (.lst (ixV (payIx qs (cashF qs) f))) → Q (.ref l) H'
/-- a walk that can be gone, its end -/
def spWalked : Sp := fun vs H Q _ => ∃ a t qs ws f, vs = [.ref a, .ref t] ∧ QH H a qs ∧ WellQ qs ∧ H t = some (.tup (ws.map V.str)) ∧ KQ.Steps qs (cashF qs) (fun _ => 0) ws f ∧
  ∀ p s b H', Ex H H' → H' p = some (.tup [.ref s, .ref b]) → StH H' s qs f → H' b = some (.lst (baV qs (cashF qs) f)) → Q (.ref p) H'
def spRunEnd : Sp := fun vs H Q _ => ∃ a t qs ws f, vs = [.ref a, .ref t] ∧ QH H a qs ∧ WellQ qs ∧ H t = some (.tup (ws.map V.str)) ∧ KQ.Steps qs (cashF qs) (fun _ => 0) ws f ∧ KQ.Stable qs (cashF qs) f ∧ ∀ s H', Ex H H' → StH H' s qs f → Q (.ref s) H'
def spRunN : Sp := fun vs H Q _ => ∃ a qs, vs = [.ref a] ∧ QH H a qs ∧ GoodQ qs ∧ ∀ f s ws H', KQ.Least qs (cashF qs) f → KQ.Steps qs (cashF qs) (fun _ => 0) ws f → ws.length ≤ 2400 → Ex H H' → H' s = some (.tup (ws.map V.str)) → Q (.ref s) H'
def PreIsRun : List V → Hp → Prop := fun vs H => ∃ a t qs ws f, vs = [.ref a, .ref t] ∧ QH H a qs ∧ GoodQ qs ∧ H t = some (.tup (ws.map V.str)) ∧ KQ.Steps qs (cashF qs) (fun _ => 0) ws f ∧ KQ.Stable qs (cashF qs) f
def spBackEnd : Sp := fun vs H Q _ => ∃ a t qs ws f, vs = [.ref a, .ref t] ∧ QH H a qs ∧ WellQ qs ∧ H t = some (.tup (ws.map V.str)) ∧ KQ.Backs qs (cashF qs) (KQ.lenOf qs) ws f ∧ KQ.Feas qs (cashF qs) f ∧ ∀ s H', Ex H H' → StH H' s qs f → Q (.ref s) H'
def spBackN : Sp := fun vs H Q _ => ∃ a qs, vs = [.ref a] ∧ QH H a qs ∧ GoodQ qs ∧ ∀ f s ws H', KQ.Great qs (cashF qs) f → KQ.Backs qs (cashF qs) (KQ.lenOf qs) ws f → ws.length ≤ 2400 → Ex H H' → H' s = some (.tup (ws.map V.str)) → Q (.ref s) H'
def PreIsBack : List V → Hp → Prop := fun vs H => ∃ a t qs ws f, vs = [.ref a, .ref t] ∧ QH H a qs ∧ GoodQ qs ∧ H t = some (.tup (ws.map V.str)) ∧ KQ.Backs qs (cashF qs) (KQ.lenOf qs) ws f ∧ KQ.Feas qs (cashF qs) f
theorem steps_drop {qs : List (Row Str)} {c : Str → Int} {g : Str → Nat} : ∀ {ws : List Str} {i : Nat} {n : Str} {f : Str → Nat}, KQ.Steps qs c f (ws.drop i) g → ws[i]? = some n → ∃ r ∈ qs, r.1 = n ∧ ∃ x, r.2.2[f r.1]? = some x ∧ x.2 ≤ held qs c f r ∧ KQ.Steps qs c (bump f r.1) (ws.drop (i + 1)) g := fun {ws i n f} h hn => by
  have hi := (List.getElem?_eq_some_iff.mp hn).1
  have e : ws.drop i = n :: ws.drop (i + 1) := by
    rw [List.drop_eq_getElem_cons hi]
    rw [List.getElem?_eq_getElem hi] at hn
    rw [Option.some.inj hn]
  rw [e] at h
  obtain ⟨r, hr, rfl, x, hx, hp, h1⟩ := h
  exact ⟨r, hr, rfl, x, hx, hp, h1⟩
theorem backs_drop {qs : List (Row Str)} {c : Str → Int} {g : Str → Nat} : ∀ {ws : List Str} {i : Nat} {n : Str} {f : Str → Nat}, KQ.Backs qs c f (ws.drop i) g → ws[i]? = some n → ∃ r ∈ qs, r.1 = n ∧ f r.1 ≠ 0 ∧ held qs c f r < 0 ∧ KQ.Backs qs c (drop f r.1) (ws.drop (i + 1)) g := fun {ws i n f} h hn => by
  have hi := (List.getElem?_eq_some_iff.mp hn).1
  have e : ws.drop i = n :: ws.drop (i + 1) := by
    rw [List.drop_eq_getElem_cons hi]
    rw [List.getElem?_eq_getElem hi] at hn
    rw [Option.some.inj hn]
  rw [e] at h
  obtain ⟨r, hr, rfl, hx, hp, h1⟩ := h
  exact ⟨r, hr, rfl, hx, hp, h1⟩
theorem at_row {qs : List (Row Str)} {r : Row Str} (h : r ∈ qs) : ∃ i : Nat, qs[i]? = some r := by
  obtain ⟨i, hi, e⟩ := List.mem_iff_getElem.mp h
  exact ⟨i, by rw [List.getElem?_eq_getElem hi, e]⟩
section
variable {K : PySem.W.Frag} {σ : L2.St} {H H' : Hp} {ta tb te : TE} {tr : TA} {D : Ends} {tz : TS}
theorem tr_dnotin {k : Key} {td ty : TE} {d : Addr} {kvs : List (Key × V)} (hk : Ev ty σ H (kV k)) (hd : Ev td σ H (.ref d)) (hD : H d = some (.dK kvs)) : Ev (tDNotIn ty td) σ H (.bl (!(valV kvs k).isSome)) := fun H1 e Q q => by
  refine hk H1 e _ fun H2 e2 => ?_
  refine hd H2 (e.trans e2) _ fun H3 e3 => ?_
  exact ⟨d, valV kvs k, rfl, DGet.k (((e.trans e2).trans e3) _ _ hD), q H3 (e2.trans e3)⟩
theorem s_dropC {sp : Sp} {vs : List V} (h : EvA tr σ H vs) (k : ∀ H1, Ex H H1 → sp vs H1 (fun _ H2 => D.nx σ H2) E0) : tDrop (tCall sp [] E0 tr) D σ H := h H (Ex.refl H) _ fun H1 e => by
  rw [List.append_nil]
  exact k H1 e
theorem gv_walked {a t : Addr} {qs : List (Row Str)} {ws : List Str} {f : Str → Nat} (h : EvA tr σ H [.ref a, .ref t]) (hq : QH H a qs) (W : WellQ qs) (ht : H t = some (.tup (ws.map V.str))) (hs : KQ.Steps qs (cashF qs) (fun _ => 0) ws f) :
    Gv (tCall spWalked [] E0 tr) σ H (fun v H2 => ∃ p s b, v = .ref p ∧ H2 p = some (.tup [.ref s, .ref b]) ∧ StH H2 s qs f ∧ H2 b = some (.lst (baV qs (cashF qs) f))) := fun H1 e Q q => by
  refine h H1 e _ fun H2 e2 => ?_
  rw [List.append_nil]
  exact ⟨a, t, qs, ws, f, rfl, hq.tx (TX.of (e.trans e2)), W, (e.trans e2) _ _ ht, hs, fun p s b H' e3 h1 h2 h3 => q _ H' (e2.trans e3) ⟨p, s, b, rfl, h1, h2, h3⟩⟩
theorem gv_runEnd {a t : Addr} {qs : List (Row Str)} {ws : List Str} {f : Str → Nat} (h : EvA tr σ H [.ref a, .ref t]) (hq : QH H a qs) (W : WellQ qs) (ht : H t = some (.tup (ws.map V.str))) (hs : KQ.Steps qs (cashF qs) (fun _ => 0) ws f) (hst : KQ.Stable qs (cashF qs) f) :
    Gv (tCall spRunEnd [] E0 tr) σ H (fun v H2 => ∃ s, v = .ref s ∧ StH H2 s qs f) := fun H1 e Q q => by
  refine h H1 e _ fun H2 e2 => ?_
  rw [List.append_nil]
  exact ⟨a, t, qs, ws, f, rfl, hq.tx (TX.of (e.trans e2)), W, (e.trans e2) _ _ ht, hs, hst, fun s H' e3 h1 => q _ H' (e2.trans e3) ⟨s, rfl, h1⟩⟩
theorem gv_backEnd {a t : Addr} {qs : List (Row Str)} {ws : List Str} {f : Str → Nat} (h : EvA tr σ H [.ref a, .ref t]) (hq : QH H a qs) (W : WellQ qs) (ht : H t = some (.tup (ws.map V.str))) (hs : KQ.Backs qs (cashF qs) (KQ.lenOf qs) ws f) (hst : KQ.Feas qs (cashF qs) f) :
    Gv (tCall spBackEnd [] E0 tr) σ H (fun v H2 => ∃ s, v = .ref s ∧ StH H2 s qs f) := fun H1 e Q q => by
  refine h H1 e _ fun H2 e2 => ?_
  rw [List.append_nil]
  exact ⟨a, t, qs, ws, f, rfl, hq.tx (TX.of (e.trans e2)), W, (e.trans e2) _ _ ht, hs, hst, fun s H' e3 h1 => q _ H' (e2.trans e3) ⟨s, rfl, h1⟩⟩
theorem ev_notNon {x : V} (ha : Ev ta σ H x) : Ev (tOp (fun x y H Q => y = .non ∧ Q (.bl (!decide (x = .non))) H) ta (tC .non)) σ H (.bl (!decide (x = .non))) := ev_op ha ev_c fun H1 _ _ q => ⟨rfl, q H1 (Ex.refl H1)⟩
theorem gv_notNon {s : Hp → Addr → Prop} (ha : Gv ta σ H (fun v H2 => ∃ p, v = .ref p ∧ s H2 p)) : Ev (tOp (fun x y H Q => y = .non ∧ Q (.bl (!decide (x = .non))) H) ta (tC .non)) σ H (.bl true) := fun H1 e Q q => by
  refine ha H1 e _ fun v H2 e2 ⟨p, hv, _⟩ => ?_
  subst hv
  exact ⟨rfl, q H2 e2⟩
theorem el_payingA {a s b : Addr} {qs : List (Row Str)} {c : Str → Int} {f : Str → Nat} (h : EvA tr σ H [.ref a, .ref s, .ref b]) (hq : QH H a qs) (l40 : qs.length ≤ 40) (hs : StA H s qs f) (hb : H b = some (.lst (baV qs c f))) : EvL (tCall spPaying [] E0 tr) σ H (ixV (payIx qs c f)) := fun H1 e Q q => by
  refine h H1 e _ fun H2 e2 => ?_
  rw [List.append_nil]
  exact ⟨a, s, b, qs, c, f, rfl, hq.tx (TX.of (e.trans e2)), l40, hs.ex (e.trans e2), (e.trans e2) _ _ hb, fun l H' hl e3 hl' => q l H' (fresh_back e2 hl) (e2.trans e3) hl'⟩
theorem el_payers {a s : Addr} {qs : List (Row Str)} {f : Str → Nat} (h : EvA tr σ H [.ref a, .ref s]) (hq : QH H a qs) (W : WellQ qs) (hs : StA H s qs f) (hw : KQ.Within qs f) : EvL (tCall spPayers [] E0 tr) σ H (ixV (payIx qs (cashF qs) f)) := fun H1 e Q q => by
  refine h H1 e _ fun H2 e2 => ?_
  rw [List.append_nil]
  exact ⟨a, s, qs, f, rfl, hq.tx (TX.of (e.trans e2)), W, hs.ex (e.trans e2), hw, fun l H' hl e3 hl' => q l H' (fresh_back e2 hl) (e2.trans e3) hl'⟩
/-- a new list of numbers == [] -/
theorem ev_nilNew {is : List Nat} (ha : EvL ta σ H (ixV is)) : Ev (tOp (rEqD K) ta (tLst tNil)) σ H (.bl is.isEmpty) := fun H1 e Q q => by
  refine ha H1 e _ fun p H2 _ e2 hp => ⟨Nat.zero_le _, fun n hn => ?_⟩
  have x1 : Ex H2 (upd H2 n (.lst [])) := Ex.new hn
  refine ⟨.list ((is.map fun i => ((i : Nat) : Int)).map PyData.int), .list [], .lst (sq_of (x1 _ _ hp)) (by rw [ixV_ints]; exact dp_ints _ _), .lst (sq_of upd_same) .nil, shaped_ints _, by decide, ?_⟩
  · have eb : PyData.eqv (.list ((is.map fun i => ((i : Nat) : Int)).map PyData.int)) (.list []) = is.isEmpty := by
      cases is with
      | nil => rfl
      | cons x r => rfl
    rw [eb]
    exact q _ (e2.trans x1)
theorem ev_neNilNew {is : List Nat} (ha : EvL ta σ H (ixV is)) : Ev (tOp (rNeD K) ta (tLst tNil)) σ H (.bl (!is.isEmpty)) := fun H1 e Q q => by
  refine ha H1 e _ fun p H2 _ e2 hp => ⟨Nat.zero_le _, fun n hn => ?_⟩
  have x1 : Ex H2 (upd H2 n (.lst [])) := Ex.new hn
  refine ⟨.list ((is.map fun i => ((i : Nat) : Int)).map PyData.int), .list [], .lst (sq_of (x1 _ _ hp)) (by rw [ixV_ints]; exact dp_ints _ _), .lst (sq_of upd_same) .nil, shaped_ints _, by decide, ?_⟩
  · have eb : PyData.eqv (.list ((is.map fun i => ((i : Nat) : Int)).map PyData.int)) (.list []) = is.isEmpty := by
      cases is with
      | nil => rfl
      | cons x r => rfl
    rw [eb]
    exact q _ (e2.trans x1)
theorem payIx_stable {qs : List (Row Str)} {c : Str → Int} {f : Str → Nat} (h : KQ.Stable qs c f) : payIx qs c f = [] := by
  cases hp : payIx qs c f with
  | nil => rfl
  | cons i l =>
    exfalso
    obtain ⟨r, hr, hc⟩ := payIx_at (k := 0) (by rw [hp]; rfl)
    obtain ⟨x, hx, hpay⟩ := canPay_at hc
    have := h r (List.mem_of_getElem? hr) x hx
    omega
end
section
variable {P : Program} {w : World} {K : PySem.W.Frag} {mg : Str → Option Value} {base : Heap} {f : Addr} {fd : FuncData} {aK : Addr} {tk : Tk}
theorem ok_payers (F : Fun K "payers" "payers" s_payers f fd) (T : Tx K mg aK tk) (c_balance_list : Cal P w K mg base CX0 2 "balance_list" ["queues", "state"] spBal) (c_paying : Cal P w K mg base CX0 1 "paying" ["queues", "state", "balances"] spPaying) : FnOk P w K mg base CX0 3 f fd ["queues", "state"] spPayers := by
  refine F.ok sc_payers (fun vs H Q E h => ?_) (fun cdv A outer s H vs Q E hr h => ?_)
  · obtain ⟨a, s, qs, ff, rfl, _⟩ := h
    rfl
  · obtain ⟨a, s, qs, ff, rfl, hq, W, hs, hw, k⟩ := h
    have hu := hu_of hr
    refine ⟨_, (pss_one (ps_ret (pe_cl c_paying hr (by decide) (by rfl) (pa_cons (pv 0) (pa_cons (pv 1) (pa_cons (pe_cl c_balance_list hr (by decide) (by rfl) (pa_cons (pv 0) (pa_cons (pv 1) pa_nil))) pa_nil)))))), ?_⟩
    refine ⟨.ref a, rfl, .ref s, rfl, ?_⟩
    refine el_balA (σ := [some (.ref a), some (.ref s)]) (c := cashF qs) (ea_cons (ev_var (i := 0) rfl) (ea_cons (ev_var (i := 1) rfl) ea_nil)) hq W hs hw (fun r hr => cashF_at W.nd hr) H (Ex.refl _) _ fun b H1 hb0 e1 hb => ?_
    exact ⟨a, s, b, qs, cashF qs, ff, rfl, hq.tx (TX.of e1), W.l40, hs.ex e1, hb, fun l H2 hl e2 hl2 => k l H2 (fresh_back e1 hl) (e1.trans e2) hl2⟩
theorem ok_walked_to (F : Fun K "walked_to" "walked_to" s_walked_to f fd) (T : Tx K mg aK tk) (c_number_of : Cal P w K mg base CX0 1 "number_of" ["queues"] spNum) (c_balance_list : Cal P w K mg base CX0 2 "balance_list" ["queues", "state"] spBal)
    (c_pays_next : Cal P w K mg base CX0 1 "pays_next" ["queues", "numbers", "state", "balances", "at"] spPay) : FnOk P w K mg base CX0 3 f fd ["queues", "thing"] spWalked := by
  refine F.ok sc_walked_to (fun vs H Q E h => ?_) (fun cdv A outer s H vs Q E hr h => ?_)
  · obtain ⟨a, t, qs, ws, ff, rfl, _⟩ := h
    rfl
  · obtain ⟨a, t, qs, ws, ff, rfl, hq, g, ht, hsteps, k⟩ := h
    have hu := hu_of hr
    refine ⟨_, (pss_cons (ps_if (pt_not (pt_val (pe_callB (crIsi (K := K) rfl) (by rfl) T.isinstance (by decide +kernel) (pa_cons (pv 1) (pa_cons (pe_bltn (v := .ty "tuple") (by rfl) T.tuple (by decide +kernel) rfl) pa_nil)))))
        (pss_one (ps_ret pe_non))
        pss_nil)
      (pss_cons (ps_par (i := 2) (j := 3) (by rfl) sc_walked_to.nd rfl rfl (by decide) rfl rfl (pa_cons (pe_cl c_number_of hr (by decide) (by rfl) (pa_cons (pv 0) pa_nil)) (pa_cons (pe_op op_rep (pe_lst (pa_cons pe_int pa_nil)) (pe_callB (crLen (K := K) rfl) (by rfl) T.len (by decide +kernel) (pa_cons (pe_ix (ixT (K := K) rfl) (pv 0) pe_int (fun _ _ => rfl)) pa_nil))) pa_nil)) (by rfl))
      (pss_cons (ps_set (i := 4) sc_walked_to.nd rfl (Or.inl rfl) (pe_cl c_balance_list hr (by decide) (by rfl) (pa_cons (pv 0) (pa_cons (pv 3) pa_nil))))
      (pss_cons (ps_for PassesOwn.never rfl (piTup (K := K) rfl (pv 1)) (pg_name (i := 5) sc_walked_to.nd rfl (Or.inl rfl))
        (pss_cons (ps_if (PW.pt (pw_or (pt_not (pt_val (pe_callB (crIsi (K := K) rfl) (by rfl) T.isinstance (by decide +kernel) (pa_cons (pv 5) (pa_cons (pe_bltn (v := .ty "str") (by rfl) T.str (by decide +kernel) rfl) pa_nil))))) (pw_or1 (pt_cmp (pc_dnotin hu (pv 5) (pv 2)) (by rfl)))))
        (pss_one (ps_ret pe_non))
        pss_nil)
      (pss_cons (ps_set (i := 6) sc_walked_to.nd rfl (Or.inl rfl) (pe_dget hu (pv 2) (pv 5) (fun _ _ => rfl)))
      (pss_cons (ps_set (i := 7) sc_walked_to.nd rfl (Or.inl rfl) (pe_ix (ixT (K := K) rfl) (pe_ix (ixT (K := K) rfl) (pe_ix (ixT (K := K) rfl) (pv 0) pe_int (fun _ _ => rfl)) (pv 6) (fun _ _ => rfl)) pe_int (fun _ _ => rfl)))
      (pss_cons (ps_if (PW.pt (pw_or (pt_cmpR op_eq (pe_ix (ixL (K := K) rfl) (pv 3) (pv 6) (fun _ _ => rfl)) (pe_callB (crLen (K := K) rfl) (by rfl) T.len (by decide +kernel) (pa_cons (pv 7) pa_nil)) (nomark _)) (pw_or1 (pt_cmpR op_lt (pe_ix (ixL (K := K) rfl) (pv 4) (pv 6) (fun _ _ => rfl)) (pe_ix (ixT (K := K) rfl) (pe_ix (ixT (K := K) rfl) (pv 7) (pe_ix (ixL (K := K) rfl) (pv 3) (pv 6) (fun _ _ => rfl)) (fun _ _ => rfl)) pe_int (fun _ _ => rfl)) (nomark _)))))
        (pss_one (ps_ret pe_non))
        pss_nil)
      (pss_one (ps_expr (pe_cl c_pays_next hr (by decide) (by rfl) (pa_cons (pv 0) (pa_cons (pv 2) (pa_cons (pv 3) (pa_cons (pv 4) (pa_cons (pv 6) pa_nil)))))))))))))
      (pss_one (ps_ret (pe_tup (pa_cons (pe_callTy (crTup (K := K) rfl) (by rfl) T.tuple (by decide +kernel) (pa_cons (pv 3) pa_nil)) (pa_cons (pv 4) pa_nil))))))))), ?_⟩
    obtain ⟨hb0, ha, ps, hb0', hpr⟩ := id hq
    have nd := g.nd
    have l40 := g.l40
    have hlen : (ps.map V.ref).length = qs.length := by rw [List.length_map, paired_len hpr]
    refine q_when (b := false) (et_is (et_not (et_B (ev_isi (ev_var rfl) ev_c (ClsV.ty _) (fun H1 e1 => .base (.tup (e1 _ _ ht))) (kit_ty (b := "tuple") (r := true) (by decide +kernel))))) rfl) (fun z => by cases z) (fun _ H0 e0 => ?_)
    have e0' : List.replicate qs.length (V.int 0) = stV qs (fun _ => 0) := by
      unfold stV
      rw [List.map_const']
      rfl
    have we := el_rep (σ := [some (.ref a), some (.ref t), none, none, none, none, none, none]) (H := H0) (n := (ps.map V.ref).length) (ta := tLst (tCons (tC (.int 0)) tNil)) (el_lst (ea_cons (ev_c (v := .int 0)) ea_nil) (by show 1 ≤ 100000; omega)) (ev_lenT (K := K) (ev_houses (K := K) (ev_var (i := 0) rfl) (e0 _ _ ha)) (st_of (e0 _ _ hb0'))) (by omega)
    rw [hlen, e0'] at we
    refine q_parDL (ed_num (ea_cons (ev_var rfl) ea_nil) (hq.tx (TX.of e0)) g) we fun d st H1 hd0 hs0 hds e1 hd hst => ?_
    have e01 := e0.trans e1
    refine q_asgL (el_bal (c := cashF qs) (σ := [some (.ref a), some (.ref t), some (.ref d), some (.ref st), none, none, none, none]) (ea_cons (ev_var rfl) (ea_cons (ev_var rfl) ea_nil)) (hq.tx (TX.of e01)) g hst (fun _ _ => Nat.zero_le _) fun r hr => cashF_at nd hr) fun ba H2 hb2 e2 hba => ?_
    have e02 := e01.trans e2
    have nsb : st ≠ ba := ne_of_none hst hb2
    have S0 : Sts H2 a st ba qs (cashF qs) (fun _ => 0) := ⟨hq.tx (TX.of e02), l40, nd, e2 _ _ hst, hba, nsb⟩
    have wl : (ws.map V.str).length = ws.length := List.length_map ..
    refine q_forT (K := K) (a := t) (xs := ws.map V.str) (σ := [some (.ref a), some (.ref t), some (.ref d), some (.ref st), some (.ref ba), none, none, none]) (ev_var (i := 1) rfl) (st_of (e02 _ _ ht))
      (fun i σ' H' => ∃ (fi : Str → Nat) (y5 y6 y7 : Option V), σ' = [some (.ref a), some (.ref t), some (.ref d), some (.ref st), some (.ref ba), y5, y6, y7] ∧ Ex H H' ∧ Sts H' a st ba qs (cashF qs) fi ∧ H' d = some (.dK (numK qs)) ∧ KQ.Steps qs (cashF qs) fi (ws.drop i) ff)
      (fun H3 e3 => ⟨_, none, none, none, rfl, e02.trans e3, S0.mono e3, (e2.trans e3) _ _ hd, hsteps⟩) (fun i σ' H' _ hP => ?_) (fun i x σ' H' hx hP => ?_) (fun σ' H' hP => ?_)
    · obtain ⟨_, _, _, _, _, e, _⟩ := hP
      exact st_of (e _ _ ht)
    · obtain ⟨fi, y5, y6, y7, rfl, eH, S, hdn, hsd⟩ := hP
      obtain ⟨n, hn, rfl⟩ := map_at hx
      obtain ⟨r, hrm, rfl, x, hx2, hpay, hsd2⟩ := steps_drop hsd hn
      obtain ⟨i0, hqr⟩ := at_row hrm
      obtain ⟨p, hp⟩ := get_of (l := ps) (i := i0) rfl (by rw [paired_len hpr]; exact (List.getElem?_eq_some_iff.mp hqr).1)
      obtain ⟨q', hrow, ps', hp', hpr'⟩ := paired_at hpr hp hqr
      obtain ⟨px, hpx⟩ := get_of (l := ps') (i := fi r.1) (paired_len hpr') (by exact (List.getElem?_eq_some_iff.mp hx2).1)
      have hxp : H px = some (.tup [.str x.1, .int x.2]) := paired_at hpr' hpx hx2
      refine q_when (σ := [some (.ref a), some (.ref t), some (.ref d), some (.ref st), some (.ref ba), some (.str r.1), y6, y7]) (b := false) (et_is (et_or (et_not (et_B (ev_isi (ev_var (i := 5) rfl) ev_c (ClsV.ty _) (fun _ _ => .base (.str r.1)) (kit_ty (b := "str") (r := true) (by decide +kernel))))) fun _ =>
        et_B (tr_dnotin (k := Sum.inr r.1) (ev_var (i := 5) rfl) (ev_var (i := 2) rfl) hdn)) (by rw [numK_at nd hqr]; rfl)) (fun z => by cases z) (fun _ H3 e3 => ?_)
      refine q_asg (σ := [some (.ref a), some (.ref t), some (.ref d), some (.ref st), some (.ref ba), some (.str r.1), y6, y7]) (v := .int (i0 : Nat)) (ev_dget (k := Sum.inr r.1) (ev_var (i := 2) rfl) (ev_var (i := 5) rfl) (e3 _ _ hdn) (numK_at nd hqr)) fun H4 e4 => ?_
      have e34 := e3.trans e4
      have eH4 := eH.trans e34
      refine q_asg (σ := [some (.ref a), some (.ref t), some (.ref d), some (.ref st), some (.ref ba), some (.str r.1), some (.int (i0 : Nat)), y7]) (v := .ref q') (ev_op (ev_op (ev_houses (K := K) (ev_var rfl) (eH4 _ _ ha)) (ev_var rfl) (rv_ixT (st_of (eH4 _ _ hb0')) (at_of (j := i0) rfl (by rw [List.getElem?_map, hp]; rfl)))) ev_c (rv_ixT (st_of (eH4 _ _ hrow)) (at_of (j := 2) rfl rfl))) fun H5 e5 => ?_
      have e35 := e34.trans e5
      have eH5 := eH.trans e35
      have S5 := S.mono e35
      have est : ∀ {H6 : Hp}, Ex H5 H6 → Ev (tOp (rIxL K) (tVar 3) (tVar 6)) [some (.ref a), some (.ref t), some (.ref d), some (.ref st), some (.ref ba), some (.str r.1), some (.int (i0 : Nat)), some (.ref q')] H6 (.int (fi r.1 : Nat)) := fun e => ev_op (ev_var rfl) (ev_var rfl) (rv_ixL (sq_of (e _ _ S5.st)) (at_of (j := i0) rfl (stV_at hqr)))
      have hlt := (List.getElem?_eq_some_iff.mp hx2).1
      refine q_when (σ := [some (.ref a), some (.ref t), some (.ref d), some (.ref st), some (.ref ba), some (.str r.1), some (.int (i0 : Nat)), some (.ref q')]) (b := false) (et_is (et_or (et_test (ev_eqI (est (Ex.refl _)) (ev_lenT (ev_var (i := 7) rfl) (st_of (eH5 _ _ hp'))))) fun _ =>
        et_test (ev_ltV (i := held qs (cashF qs) fi r) (j := x.2) (ev_op (ev_var (i := 4) rfl) (ev_var (i := 6) rfl) (rv_ixL (sq_of S5.ba) (at_of (j := i0) rfl (baV_at hqr)))) (ev_op (ev_op (ev_var (i := 7) rfl) (est (Ex.refl _)) (rv_ixT (st_of (eH5 _ _ hp')) (at_of (j := fi r.1) rfl (by rw [List.getElem?_map, hpx]; rfl)))) ev_c (rv_ixT (st_of (eH5 _ _ hxp)) (at_of (j := 1) rfl rfl)))))
        (by rw [List.length_map, paired_len hpr', decide_eq_false (by omega), decide_eq_false (by omega)]; rfl)) (fun z => by cases z) (fun _ H6 e6 => ?_)
      refine s_dropC (σ := [some (.ref a), some (.ref t), some (.ref d), some (.ref st), some (.ref ba), some (.str r.1), some (.int (i0 : Nat)), some (.ref q')]) (ea_cons (ev_var rfl) (ea_cons (ev_var rfl) (ea_cons (ev_var rfl) (ea_cons (ev_var rfl) (ea_cons (ev_var rfl) ea_nil))))) fun H7 e7 => ?_
      have e37 := (e35.trans e6).trans e7
      refine ⟨a, d, st, ba, qs, cashF qs, fi, i0, r, x, rfl, S.mono e37, e37 _ _ hdn, hqr, hx2, g.mem r hrm x (List.mem_of_getElem? hx2), fun H8 x8 S8 => ?_⟩
      exact ⟨bump fi r.1, _, _, _, rfl, ExD.ex (eH.trans e37) x8 (fresh_back e0 hs0) (fresh_back e01 hb2), S8, x8 _ _ (e37 _ _ hdn) (ne_of hdn S.st (by intro z; cases z)) (ne_of hdn S.ba (by intro z; cases z)), hsd2⟩
    · obtain ⟨fi, y5, y6, y7, rfl, eH, S, hdn, hsd⟩ := hP
      rw [wl, List.drop_length] at hsd
      have hsd : fi = ff := hsd
      subst hsd
      refine (eu_tupQ (K := K) (σ := [some (.ref a), some (.ref t), some (.ref d), some (.ref st), some (.ref ba), y5, y6, y7]) (H := H') (ta := tVar 3) (eql_ev (ev_var (i := 3) rfl) (sq_of S.st))) H' (Ex.refl _) _ fun tq H3 htq0 e3 htq => ?_
      refine ⟨.ref ba, rfl, by show 2 ≤ sizeLine; decide, fun p hp => ?_⟩
      have x4 : Ex H3 (upd H3 p (.tup [.ref tq, .ref ba])) := Ex.new hp
      exact k p tq ba _ (eH.trans (e3.trans x4)) upd_same (x4 _ _ htq) ((e3.trans x4) _ _ S.ba)
theorem ok_run_end (F : Fun K "run_end" "run_end" s_run_end f fd) (T : Tx K mg aK tk) (c_walked_to : Cal P w K mg base CX0 3 "walked_to" ["queues", "thing"] spWalked) (c_paying : Cal P w K mg base CX0 1 "paying" ["queues", "state", "balances"] spPaying) : FnOk P w K mg base CX0 4 f fd ["queues", "thing"] spRunEnd := by
  refine F.ok sc_run_end (fun vs H Q E h => ?_) (fun cdv A outer s H vs Q E hr h => ?_)
  · obtain ⟨a, t, qs, ws, ff, rfl, _⟩ := h
    rfl
  · obtain ⟨a, t, qs, ws, ff, rfl, hq, g, ht, hsteps, hst, k⟩ := h
    have hu := hu_of hr
    refine ⟨_, (pss_cons (ps_set (i := 2) sc_run_end.nd rfl (Or.inl rfl) (pe_cl c_walked_to hr (by decide) (by rfl) (pa_cons (pv 0) (pa_cons (pv 1) pa_nil))))
      (pss_cons (ps_if (PW.pt (pw_or (pt_cmpR op_isN (pv 2) pe_non (nomark _)) (pw_or1 (pt_cmpR (opNeD (K := K) rfl hr.units) (pe_cl c_paying hr (by decide) (by rfl) (pa_cons (pv 0) (pa_cons (pe_ix (ixT (K := K) rfl) (pv 2) pe_int (fun _ _ => rfl)) (pa_cons (pe_ix (ixT (K := K) rfl) (pv 2) pe_int (fun _ _ => rfl)) pa_nil)))) (pe_lst pa_nil) (nomark _)))))
        (pss_one (ps_ret pe_non))
        pss_nil)
      (pss_one (ps_ret (pe_ix (ixT (K := K) rfl) (pv 2) pe_int (fun _ _ => rfl)))))), ?_⟩
    refine q_asgG (gv_walked (ea_cons (ev_var (i := 0) rfl) (ea_cons (ev_var (i := 1) rfl) ea_nil)) hq g ht hsteps) fun v H1 e1 ⟨p, s, b, hv, hp, hs, hb⟩ => ?_
    subst hv
    have i0 : ∀ {H2 : Hp}, Ex H1 H2 → Ev (tOp (rIxT K) (tVar 2) (tC (.int 0))) [some (.ref a), some (.ref t), some (.ref p)] H2 (.ref s) := fun e => ev_op (ev_var rfl) ev_c (rv_ixT (st_of (e _ _ hp)) (at_of (j := 0) rfl rfl))
    have i1 : ∀ {H2 : Hp}, Ex H1 H2 → Ev (tOp (rIxT K) (tVar 2) (tC (.int 1))) [some (.ref a), some (.ref t), some (.ref p)] H2 (.ref b) := fun e => ev_op (ev_var rfl) ev_c (rv_ixT (st_of (e _ _ hp)) (at_of (j := 1) rfl rfl))
    refine q_when (σ := [some (.ref a), some (.ref t), some (.ref p)]) (b := false) (et_is (et_or (et_test (ev_isNon (ev_var (i := 2) rfl))) fun _ => et_test (ev_neNilNew (K := K) (el_payingA (ea_cons (ev_var (i := 0) rfl) (ea_cons (i0 (Ex.refl _)) (ea_cons (i1 (Ex.refl _)) ea_nil))) (hq.tx (TX.of e1)) g.l40 (Or.inr hs) hb))) (by rw [payIx_stable hst]; rfl)) (fun z => by cases z) (fun _ H2 e2 => ?_)
    exact s_ret (i0 e2) fun H3 e3 => k s H3 (e1.trans (e2.trans e3)) ((e2.trans e3) _ _ hs)
theorem ok_run (F : Fun K "run" "run" s_run f fd) (T : Tx K mg aK tk) (c_check_queues : Cal P w K mg base CX0 4 "check_queues" ["queues"] (spN PreQ)) (c_run_walk : Cal P w K mg base CX0 3 "run_walk" ["queues"] spRun) : FnOk P w K mg base CX0 5 f fd ["queues"] spRunN := by
  refine F.ok sc_run (fun vs H Q E h => ?_) (fun cdv A outer s H vs Q E hr h => ?_)
  · obtain ⟨a, qs, rfl, _⟩ := h
    rfl
  · obtain ⟨a, qs, rfl, hq, g, k⟩ := h
    have hu := hu_of hr
    refine ⟨_, (pss_cons (ps_expr (pe_cl c_check_queues hr (by decide) (by rfl) (pa_cons (pv 0) pa_nil)))
      (pss_one (ps_ret (pe_ix (ixT (K := K) rfl) (pe_cl c_run_walk hr (by decide) (by rfl) (pa_cons (pv 0) pa_nil)) pe_int (fun _ _ => rfl))))), ?_⟩
    refine q_drop (v := .non) (ev_callN (ea_cons (ev_var rfl) ea_nil) fun H1 e1 => ⟨a, qs, rfl, hq.tx (TX.of e1), g⟩) fun H1 e1 => ?_
    refine s_retG (gv_fst (K := K) (gv_run (ea_cons (ev_var rfl) ea_nil) (hq.tx (TX.of e1)) g.well)) fun v H2 e2 hv => ?_
    obtain ⟨ff, s, ws, rfl, ⟨h1, h2, h3⟩, hs⟩ := hv
    exact k ff s ws H2 h1 h2 h3 (e1.trans e2) hs
theorem ok_retreat (F : Fun K "retreat" "retreat" s_retreat f fd) (T : Tx K mg aK tk) (c_check_queues : Cal P w K mg base CX0 4 "check_queues" ["queues"] (spN PreQ)) (c_retreat_walk : Cal P w K mg base CX0 3 "retreat_walk" ["queues"] spRet) : FnOk P w K mg base CX0 5 f fd ["queues"] spBackN := by
  refine F.ok sc_retreat (fun vs H Q E h => ?_) (fun cdv A outer s H vs Q E hr h => ?_)
  · obtain ⟨a, qs, rfl, _⟩ := h
    rfl
  · obtain ⟨a, qs, rfl, hq, g, k⟩ := h
    have hu := hu_of hr
    refine ⟨_, (pss_cons (ps_expr (pe_cl c_check_queues hr (by decide) (by rfl) (pa_cons (pv 0) pa_nil)))
      (pss_one (ps_ret (pe_ix (ixT (K := K) rfl) (pe_cl c_retreat_walk hr (by decide) (by rfl) (pa_cons (pv 0) pa_nil)) pe_int (fun _ _ => rfl))))), ?_⟩
    refine q_drop (v := .non) (ev_callN (ea_cons (ev_var rfl) ea_nil) fun H1 e1 => ⟨a, qs, rfl, hq.tx (TX.of e1), g⟩) fun H1 e1 => ?_
    refine s_retG (gv_fst (K := K) (gv_ret (ea_cons (ev_var rfl) ea_nil) (hq.tx (TX.of e1)) g.well g.c0)) fun v H2 e2 hv => ?_
    obtain ⟨ff, s, ws, rfl, ⟨h1, h2, h3⟩, hs⟩ := hv
    exact k ff s ws H2 h1 h2 h3 (e1.trans e2) hs
theorem ok_is_run (F : Fun K "is_run" "is_run" s_is_run f fd) (T : Tx K mg aK tk) (c_check_queues : Cal P w K mg base CX0 4 "check_queues" ["queues"] (spN PreQ)) (c_run_end : Cal P w K mg base CX0 4 "run_end" ["queues", "thing"] spRunEnd) : FnOk P w K mg base CX0 5 f fd ["queues", "value"] (spB PreIsRun) := by
  refine F.ok sc_is_run (fun vs H Q E h => ?_) (fun cdv A outer s H vs Q E hr h => ?_)
  · obtain ⟨⟨a, t, qs, ws, ff, rfl, _⟩, _⟩ := h
    rfl
  · obtain ⟨⟨a, t, qs, ws, ff, rfl, hq, g, ht, hsteps, hst⟩, k⟩ := h
    have hu := hu_of hr
    refine ⟨_, (pss_cons (ps_expr (pe_cl c_check_queues hr (by decide) (by rfl) (pa_cons (pv 0) pa_nil)))
      (pss_one (ps_ret (pe_cmpR op_notN (pe_cl c_run_end hr (by decide) (by rfl) (pa_cons (pv 0) (pa_cons (pv 1) pa_nil))) pe_non (nomark _))))), ?_⟩
    refine q_drop (v := .non) (ev_callN (ea_cons (ev_var rfl) ea_nil) fun H1 e1 => ⟨a, qs, rfl, hq.tx (TX.of e1), g⟩) fun H1 e1 => ?_
    exact s_ret (gv_notNon (gv_runEnd (ea_cons (ev_var (i := 0) rfl) (ea_cons (ev_var (i := 1) rfl) ea_nil)) (hq.tx (TX.of e1)) g.well (e1 _ _ ht) hsteps hst)) fun H2 e2 => k _ _ (e1.trans e2) rfl
theorem ok_back_end (F : Fun K "back_end" "back_end" s_back_end f fd) (T : Tx K mg aK tk) (c_number_of : Cal P w K mg base CX0 1 "number_of" ["queues"] spNum) (c_end_of_all : Cal P w K mg base CX0 1 "end_of_all" ["queues"] spEnd) (c_balance_list : Cal P w K mg base CX0 2 "balance_list" ["queues", "state"] spBal)
    (c_takes_back : Cal P w K mg base CX0 1 "takes_back" ["queues", "numbers", "state", "balances", "at"] spBack) : FnOk P w K mg base CX0 3 f fd ["queues", "thing"] spBackEnd := by
  refine F.ok sc_back_end (fun vs H Q E h => ?_) (fun cdv A outer s H vs Q E hr h => ?_)
  · obtain ⟨a, t, qs, ws, ff, rfl, _⟩ := h
    rfl
  · obtain ⟨a, t, qs, ws, ff, rfl, hq, g, ht, hbacks, hfeas, k⟩ := h
    have hu := hu_of hr
    refine ⟨_, (pss_cons (ps_if (pt_not (pt_val (pe_callB (crIsi (K := K) rfl) (by rfl) T.isinstance (by decide +kernel) (pa_cons (pv 1) (pa_cons (pe_bltn (v := .ty "tuple") (by rfl) T.tuple (by decide +kernel) rfl) pa_nil)))))
        (pss_one (ps_ret pe_non))
        pss_nil)
      (pss_cons (ps_par (i := 2) (j := 3) (by rfl) sc_back_end.nd rfl rfl (by decide) rfl rfl (pa_cons (pe_cl c_number_of hr (by decide) (by rfl) (pa_cons (pv 0) pa_nil)) (pa_cons (pe_callTy (crList (K := K) rfl) (by rfl) T.list (by decide +kernel) (pa_cons (pe_cl c_end_of_all hr (by decide) (by rfl) (pa_cons (pv 0) pa_nil)) pa_nil)) pa_nil)) (by rfl))
      (pss_cons (ps_set (i := 4) sc_back_end.nd rfl (Or.inl rfl) (pe_cl c_balance_list hr (by decide) (by rfl) (pa_cons (pv 0) (pa_cons (pv 3) pa_nil))))
      (pss_cons (ps_for PassesOwn.never rfl (piTup (K := K) rfl (pv 1)) (pg_name (i := 5) sc_back_end.nd rfl (Or.inl rfl))
        (pss_cons (ps_if (PW.pt (pw_or (pt_not (pt_val (pe_callB (crIsi (K := K) rfl) (by rfl) T.isinstance (by decide +kernel) (pa_cons (pv 5) (pa_cons (pe_bltn (v := .ty "str") (by rfl) T.str (by decide +kernel) rfl) pa_nil))))) (pw_or (pt_cmp (pc_dnotin hu (pv 5) (pv 2)) (by rfl)) (pw_or1 (pt_cmpR op_ge (pe_ix (ixL (K := K) rfl) (pv 4) (pe_dget hu (pv 2) (pv 5) (fun _ _ => rfl)) (fun _ _ => rfl)) pe_int (nomark _))))))
        (pss_one (ps_ret pe_non))
        pss_nil)
      (pss_one (ps_expr (pe_cl c_takes_back hr (by decide) (by rfl) (pa_cons (pv 0) (pa_cons (pv 2) (pa_cons (pv 3) (pa_cons (pv 4) (pa_cons (pe_dget hu (pv 2) (pv 5) (fun _ _ => rfl)) pa_nil))))))))))
      (pss_one (ps_ret (pe_ifExp (pt_cmpR op_ge (pe_callB (crMin (K := K) rfl rfl) (by rfl) T.min (by decide +kernel) (pa_cons (pv 4) pa_nil)) pe_int (nomark _)) (pe_callTy (crTup (K := K) rfl) (by rfl) T.tuple (by decide +kernel) (pa_cons (pv 3) pa_nil)) pe_non))))))), ?_⟩
    obtain ⟨hb0, ha, ps, hb0', hpr⟩ := id hq
    have nd := g.nd
    have l40 := g.l40
    have l1 := g.l1
    refine q_when (b := false) (et_is (et_not (et_B (ev_isi (ev_var rfl) ev_c (ClsV.ty _) (fun H1 e1 => .base (.tup (e1 _ _ ht))) (kit_ty (b := "tuple") (r := true) (by decide +kernel))))) rfl) (fun z => by cases z) (fun _ H0 e0 => ?_)
    have hf0 : ∀ r ∈ qs, KQ.lenOf qs r.1 = r.2.2.length := fun r hr => KQ.lenOf_at nd hr
    have e0' : (qs.map fun r => V.int (r.2.2.length : Nat)) = stV qs (KQ.lenOf qs) := by
      unfold stV
      exact List.map_congr_left fun r hr => by rw [hf0 r hr]
    have we := el_listU (K := K) (eu_end (σ := [some (.ref a), some (.ref t), none, none, none, none]) (tr := tCons (tVar 0) tNil) (ea_cons (ev_var rfl) ea_nil) (hq.tx (TX.of e0)) g.l40)
    rw [e0'] at we
    have w0 : KQ.Within qs (KQ.lenOf qs) := fun r hr => Nat.le_of_eq (hf0 r hr)
    refine q_parDL (ed_num (ea_cons (ev_var rfl) ea_nil) (hq.tx (TX.of e0)) g) we fun d st H1 hd0 hs0 hds e1 hd hst => ?_
    have e01 := e0.trans e1
    refine q_asgL (el_bal (c := cashF qs) (σ := [some (.ref a), some (.ref t), some (.ref d), some (.ref st), none, none]) (ea_cons (ev_var rfl) (ea_cons (ev_var rfl) ea_nil)) (hq.tx (TX.of e01)) g hst w0 fun r hr => cashF_at nd hr) fun ba H2 hb2 e2 hba => ?_
    have e02 := e01.trans e2
    have nsb : st ≠ ba := ne_of_none hst hb2
    have S0 : Sts H2 a st ba qs (cashF qs) (KQ.lenOf qs) := ⟨hq.tx (TX.of e02), l40, nd, e2 _ _ hst, hba, nsb⟩
    have wl : (ws.map V.str).length = ws.length := List.length_map ..
    refine q_forT (K := K) (a := t) (xs := ws.map V.str) (σ := [some (.ref a), some (.ref t), some (.ref d), some (.ref st), some (.ref ba), none]) (ev_var (i := 1) rfl) (st_of (e02 _ _ ht))
      (fun i σ' H' => ∃ (fi : Str → Nat) (y5 : Option V), σ' = [some (.ref a), some (.ref t), some (.ref d), some (.ref st), some (.ref ba), y5] ∧ Ex H H' ∧ Sts H' a st ba qs (cashF qs) fi ∧ H' d = some (.dK (numK qs)) ∧ KQ.Backs qs (cashF qs) fi (ws.drop i) ff ∧ KQ.Within qs fi)
      (fun H3 e3 => ⟨_, none, rfl, e02.trans e3, S0.mono e3, (e2.trans e3) _ _ hd, hbacks, w0⟩) (fun i σ' H' _ hP => ?_) (fun i x σ' H' hx hP => ?_) (fun σ' H' hP => ?_)
    · obtain ⟨_, _, _, e, _⟩ := hP
      exact st_of (e _ _ ht)
    · obtain ⟨fi, y5, rfl, eH, S, hdn, hsd, hwi⟩ := hP
      obtain ⟨n, hn, rfl⟩ := map_at hx
      obtain ⟨r, hrm, rfl, h0, hneg, hsd2⟩ := backs_drop hsd hn
      obtain ⟨i0, hqr⟩ := at_row hrm
      have hwr := hwi r hrm
      obtain ⟨x, hx2⟩ := get_of (l := r.2.2) (i := fi r.1 - 1) rfl (by omega)
      have dg : ∀ {H3 : Hp}, Ex H' H3 → Ev (tDGet (tVar 2) (tVar 5)) [some (.ref a), some (.ref t), some (.ref d), some (.ref st), some (.ref ba), some (.str r.1)] H3 (.int (i0 : Nat)) := fun e => ev_dget (k := Sum.inr r.1) (ev_var (i := 2) rfl) (ev_var (i := 5) rfl) (e _ _ hdn) (numK_at nd hqr)
      refine q_when (σ := [some (.ref a), some (.ref t), some (.ref d), some (.ref st), some (.ref ba), some (.str r.1)]) (b := false) (et_is (et_or (et_not (et_B (ev_isi (ev_var (i := 5) rfl) ev_c (ClsV.ty _) (fun _ _ => .base (.str r.1)) (kit_ty (b := "str") (r := true) (by decide +kernel))))) fun _ =>
        et_or (et_B (tr_dnotin (k := Sum.inr r.1) (ev_var (i := 5) rfl) (ev_var (i := 2) rfl) hdn)) fun _ => et_test (ev_geV (i := held qs (cashF qs) fi r) (j := 0) (ev_op (ev_var (i := 4) rfl) (dg (Ex.refl _)) (rv_ixL (sq_of S.ba) (at_of (j := i0) rfl (baV_at hqr)))) ev_c)) (by rw [numK_at nd hqr, decide_eq_false (by omega)]; rfl)) (fun z => by cases z) (fun _ H3 e3 => ?_)
      refine s_dropC (σ := [some (.ref a), some (.ref t), some (.ref d), some (.ref st), some (.ref ba), some (.str r.1)]) (ea_cons (ev_var rfl) (ea_cons (ev_var rfl) (ea_cons (ev_var rfl) (ea_cons (ev_var rfl) (ea_cons (dg e3) ea_nil))))) fun H7 e7 => ?_
      have e37 := e3.trans e7
      refine ⟨a, d, st, ba, qs, cashF qs, fi, i0, r, x, rfl, S.mono e37, e37 _ _ hdn, hqr, h0, hx2, g.mem r hrm x (List.mem_of_getElem? hx2), fun H8 x8 S8 => ?_⟩
      refine ⟨drop fi r.1, _, rfl, ExD.ex (eH.trans e37) x8 (fresh_back e0 hs0) (fresh_back e01 hb2), S8, x8 _ _ (e37 _ _ hdn) (ne_of hdn S.st (by intro z; cases z)) (ne_of hdn S.ba (by intro z; cases z)), hsd2, fun q hq' => ?_⟩
      have := hwi q hq'
      unfold KQ.drop
      split <;> omega
    · obtain ⟨fi, y5, rfl, eH, S, hdn, hsd, hwi⟩ := hP
      rw [wl, List.drop_length] at hsd
      have hsd : fi = ff := hsd
      subst hsd
      have eb : baV qs (cashF qs) fi = (qs.map fun r => held qs (cashF qs) fi r).map V.int := by
        unfold baV
        rw [List.map_map]
        rfl
      have hba' := S.ba
      rw [eb] at hba'
      obtain ⟨j, mn, hj, hmin, hfst⟩ := min_of (qs.map fun r => held qs (cashF qs) fi r) (fun z => by
        have := congrArg List.length z
        rw [List.length_map, List.length_nil] at this
        omega)
      obtain ⟨r, hqr, rfl⟩ := map_at' hj
      have hnn := hfeas r (List.mem_of_getElem? hqr)
      refine et_test (σ := [some (.ref a), some (.ref t), some (.ref d), some (.ref st), some (.ref ba), y5]) (ev_geV (j := 0) (ev_min (K := K) (ev_var (i := 4) rfl) (sq_of hba') (List.mem_of_getElem? hj) hmin) ev_c) H' (Ex.refl _) _ fun H3 e3 => ?_
      rw [decide_eq_true hnn, if_pos rfl]
      refine (eu_tupQ (K := K) (σ := [some (.ref a), some (.ref t), some (.ref d), some (.ref st), some (.ref ba), y5]) (H := H3) (ta := tVar 3) (eql_ev (ev_var (i := 3) rfl) (sq_of (e3 _ _ S.st)))) H3 (Ex.refl _) _ fun tq H4 htq0 e4 htq => ?_
      exact k tq H4 (eH.trans (e3.trans e4)) htq
theorem ok_is_retreat (F : Fun K "is_retreat" "is_retreat" s_is_retreat f fd) (T : Tx K mg aK tk) (c_check_queues : Cal P w K mg base CX0 4 "check_queues" ["queues"] (spN PreQ)) (c_back_end : Cal P w K mg base CX0 3 "back_end" ["queues", "thing"] spBackEnd) : FnOk P w K mg base CX0 5 f fd ["queues", "value"] (spB PreIsBack) := by
  refine F.ok sc_is_retreat (fun vs H Q E h => ?_) (fun cdv A outer s H vs Q E hr h => ?_)
  · obtain ⟨⟨a, t, qs, ws, ff, rfl, _⟩, _⟩ := h
    rfl
  · obtain ⟨⟨a, t, qs, ws, ff, rfl, hq, g, ht, hb, hf⟩, k⟩ := h
    have hu := hu_of hr
    refine ⟨_, (pss_cons (ps_expr (pe_cl c_check_queues hr (by decide) (by rfl) (pa_cons (pv 0) pa_nil)))
      (pss_one (ps_ret (pe_cmpR op_notN (pe_cl c_back_end hr (by decide) (by rfl) (pa_cons (pv 0) (pa_cons (pv 1) pa_nil))) pe_non (nomark _))))), ?_⟩
    refine q_drop (v := .non) (ev_callN (ea_cons (ev_var rfl) ea_nil) fun H1 e1 => ⟨a, qs, rfl, hq.tx (TX.of e1), g⟩) fun H1 e1 => ?_
    exact s_ret (gv_notNon (gv_backEnd (ea_cons (ev_var (i := 0) rfl) (ea_cons (ev_var (i := 1) rfl) ea_nil)) (hq.tx (TX.of e1)) g.well (e1 _ _ ht) hb hf)) fun H2 e2 => k _ _ (e1.trans e2) rfl
end
end NQ
namespace KQ
variable {α : Type} [DecidableEq α]
/-- the least number from 0 on, or none -/
def LeastI (p : Int → Prop) : Option Int → Prop
  | some v => 0 ≤ v ∧ p v ∧ ∀ u, 0 ≤ u → p u → v ≤ u
  | none => ∀ u, 0 ≤ u → ¬ p u
theorem leastI_congr {p q : Int → Prop} (h : ∀ u, 0 ≤ u → (p u ↔ q u)) : ∀ {o : Option Int}, LeastI p o → LeastI q o
  | some v, ⟨a, b, c⟩ => ⟨a, (h v a).mp b, fun u hu k => c u hu ((h u hu).mpr k)⟩
  | none, k => fun u hu q => k u hu ((h u hu).mpr q)
theorem leastI_scale {p q : Int → Prop} {b : Int} (hb : 1 ≤ b) (h : ∀ u, 0 ≤ u → (q u ↔ p (u / b))) : ∀ {o w : Option Int}, LeastI p o → LeastI q w → w = o.map (fun v => v * b)
  | none, none, _, _ => rfl
  | some v, none, ⟨a, k, _⟩, n => by
    have e : v * b / b = v := Int.mul_ediv_cancel v (by omega)
    have hv : 0 ≤ v * b := Int.mul_nonneg a (by omega)
    exact absurd ((h _ hv).mpr (by rw [e]; exact k)) (n _ hv)
  | none, some v, n, ⟨a, k, _⟩ => absurd ((h v a).mp k) (n _ (Int.ediv_nonneg a (by omega)))
  | some v, some w, ⟨a, k, m⟩, ⟨a', k', m'⟩ => by
    have e : v * b / b = v := Int.mul_ediv_cancel v (by omega)
    have hv : 0 ≤ v * b := Int.mul_nonneg a (by omega)
    have h1 := m' _ hv ((h _ hv).mpr (by rw [e]; exact k))
    have h2 := m _ (Int.ediv_nonneg a' (by omega)) ((h w a').mp k')
    have h3 : w / b * b ≤ w := Int.ediv_mul_le w (by omega)
    have h4 : v * b ≤ w / b * b := Int.mul_le_mul_of_nonneg_right h2 (by omega)
    show some w = some (v * b)
    rw [show w = v * b by omega]
theorem leastI_eq {p : Int → Prop} {o w : Option Int} (h : LeastI p o) (k : LeastI p w) : w = o := by
  have := leastI_scale (b := 1) (Int.le_refl 1) (fun u _ => by rw [Int.ediv_one]) h k
  rw [this]
  cases o with
  | none => rfl
  | some v => show some (v * 1) = some v; rw [Int.mul_one]
/-- the pairs of least needs, one behind the other, from a first one on -/
def StairFrom (R : Int → Int → Prop) : Option Int → List (Int × Int) → Prop
  | none, [] => True
  | none, _ :: _ => False
  | some _, [] => False
  | some x, p :: l => p.1 = x ∧ LeastI (fun y => R x y) (some p.2) ∧ ∃ o, (if p.2 = 0 then o = none else LeastI (fun u => R u (p.2 - 1)) o) ∧ StairFrom R o l
/-- all pairs of least needs -/
def Stair (R : Int → Int → Prop) (l : List (Int × Int)) : Prop := ∃ o, LeastI (fun x => ∃ y, 0 ≤ y ∧ R x y) o ∧ StairFrom R o l
def byP (b : Int) (p : Int × Int) : Int × Int := (p.1 * b, p.2 * b)
theorem stairFrom_scale {R S : Int → Int → Prop} {b : Int} (hb : 1 ≤ b) (h : ∀ x y, 0 ≤ x → 0 ≤ y → (S x y ↔ R (x / b) (y / b))) : ∀ {l m : List (Int × Int)} {o : Option Int}, (∀ x ∈ o, 0 ≤ x) → StairFrom R o l → StairFrom S (o.map fun v => v * b) m → m = l.map (byP b)
  | [], [], none, _, _, _ => rfl
  | [], _ :: _, none, _, _, k => k.elim
  | _ :: _, _, none, _, k, _ => k.elim
  | [], _, some _, _, k, _ => k.elim
  | _ :: _, [], some _, _, _, k => k.elim
  | p :: l, q :: m, some x, hx, ⟨e1, l1, o1, n1, r1⟩, ⟨e2, l2, o2, n2, r2⟩ => by
    have hx0 : 0 ≤ x := hx x rfl
    have hxb : 0 ≤ x * b := Int.mul_nonneg hx0 (by omega)
    have ex : x * b / b = x := Int.mul_ediv_cancel x (by omega)
    have hq : some q.2 = (some p.2).map (fun v => v * b) := leastI_scale hb (fun u hu => by rw [h _ u hxb hu, ex]) l1 l2
    have hq : q.2 = p.2 * b := Option.some.inj hq
    have hp0 : 0 ≤ p.2 := l1.1
    have hor : o2 = o1.map (fun v => v * b) ∧ ∀ x ∈ o1, 0 ≤ x := by
      by_cases h0 : p.2 = 0
      · rw [if_pos h0] at n1
        rw [if_pos (by rw [hq, h0, Int.zero_mul])] at n2
        subst n1 n2
        exact ⟨rfl, fun x hx => by cases hx⟩
      · have hpb : p.2 ≤ p.2 * b := by
          have := Int.mul_le_mul_of_nonneg_left hb hp0
          rw [Int.mul_one] at this
          exact this
        rw [if_neg h0] at n1
        rw [if_neg (by omega)] at n2
        refine ⟨leastI_scale hb (fun u hu => ?_) n1 n2, fun x hx => ?_⟩
        · rw [h u _ hu (by omega)]
          have e : (q.2 - 1) / b = p.2 - 1 := by
            rw [hq]
            have e1 : p.2 * b - 1 = (p.2 - 1) * b + (b - 1) := by rw [Int.sub_mul]; omega
            rw [e1, Int.add_comm, Int.add_mul_ediv_right _ _ (by omega), Int.ediv_eq_zero_of_lt (by omega) (by omega)]
            omega
          rw [e]
        · cases hx
          exact n1.1
    rw [hor.1] at r2
    rw [List.map_cons, ← stairFrom_scale hb h hor.2 r1 r2]
    congr 1
    exact Prod.ext (by show q.1 = p.1 * b; rw [e2, e1]) hq
theorem stair_scale {R S : Int → Int → Prop} {b : Int} (hb : 1 ≤ b) (h : ∀ x y, 0 ≤ x → 0 ≤ y → (S x y ↔ R (x / b) (y / b))) {l m : List (Int × Int)} (hl : Stair R l) (hm : Stair S m) : m = l.map (byP b) := by
  obtain ⟨o, lo, fo⟩ := hl
  obtain ⟨w, lw, fw⟩ := hm
  have e := leastI_scale hb (p := fun x => ∃ y, 0 ≤ y ∧ R x y) (q := fun x => ∃ y, 0 ≤ y ∧ S x y) (fun u hu => ⟨fun ⟨y, hy, k⟩ => ⟨y / b, Int.ediv_nonneg hy (by omega), (h u y hu hy).mp k⟩, fun ⟨y, hy, k⟩ => ⟨y * b, Int.mul_nonneg hy (by omega), (h u _ hu (Int.mul_nonneg hy (by omega))).mpr (by rw [Int.mul_ediv_cancel y (by omega)]; exact k)⟩⟩) lo lw
  rw [e] at fw
  refine stairFrom_scale hb h (fun x hx => ?_) fo fw
  cases hx
  exact lo.1
theorem byP_one (l : List (Int × Int)) : l.map (byP 1) = l := by
  conv => rhs; rw [← List.map_id l]
  refine List.map_congr_left fun p _ => ?_
  show (p.1 * 1, p.2 * 1) = p
  rw [Int.mul_one, Int.mul_one]
theorem stair_eq {R S : Int → Int → Prop} (h : ∀ x y, 0 ≤ x → 0 ≤ y → (S x y ↔ R x y)) {l m : List (Int × Int)} (hl : Stair R l) (hm : Stair S m) : m = l := by
  rw [stair_scale (b := 1) (Int.le_refl 1) (fun x y hx hy => by rw [Int.ediv_one, Int.ediv_one]; exact h x y hx hy) hl hm, byP_one]
/-- of two needs that have nothing to do with one another there is one pair, or none -/
theorem stair_two {A B : Int → Prop} {v w : Option Int} (hA : LeastI A v) (hB : LeastI B w) {l : List (Int × Int)} (hl : Stair (fun x y => A x ∧ B y) l) : l = match v, w with
    | some x, some y => [(x, y)]
    | _, _ => [] := by
  obtain ⟨o, lo, fo⟩ := hl
  cases v with
  | none =>
    cases o with
    | some x => exact absurd lo.2.1.choose_spec.2.1 (hA x lo.1)
    | none =>
      cases l with
      | nil => rfl
      | cons _ _ => exact fo.elim
  | some x =>
    cases w with
    | none =>
      cases o with
      | some x => exact absurd lo.2.1.choose_spec.2.2 (hB _ lo.2.1.choose_spec.1)
      | none =>
        cases l with
        | nil => rfl
        | cons _ _ => exact fo.elim
    | some y =>
      cases o with
      | none => exact absurd ⟨y, hB.1, hA.2.1, hB.2.1⟩ (lo x hA.1)
      | some x' =>
        have e : x' = x := by
          have h1 := lo.2.2 x hA.1 ⟨y, hB.1, hA.2.1, hB.2.1⟩
          have h2 := hA.2.2 x' lo.1 lo.2.1.choose_spec.2.1
          omega
        subst e
        cases l with
        | nil => exact fo.elim
        | cons p l =>
          obtain ⟨e1, ly, o, n, r⟩ := fo
          have e2 : p.2 = y := by
            have h1 := ly.2.2 y hB.1 ⟨hA.2.1, hB.2.1⟩
            have h2 := hB.2.2 p.2 ly.1 ly.2.1.2
            omega
          have eo : o = none := by
            by_cases h0 : p.2 = 0
            · rw [if_pos h0] at n
              exact n
            · rw [if_neg h0] at n
              cases o with
              | none => rfl
              | some u =>
                have hp : 0 ≤ p.2 := ly.1
                have := hB.2.2 (p.2 - 1) (by omega) n.2.1.2
                omega
          subst eo
          cases l with
          | cons _ _ => exact r.elim
          | nil =>
            show [p] = [(x', y)]
            rw [← e1, ← e2]
/-! ### cash beyond what a house has to pay is of no use -/
theorem outS_mono {p : List (α × Int)} (hp : ∀ x ∈ p, 1 ≤ x.2) {k m : Nat} (h : k ≤ m) : outS p k ≤ outS p m := by
  induction m with
  | zero =>
    rw [show k = 0 by omega]
    exact Int.le_refl _
  | succ m ih =>
    by_cases e : k = m + 1
    · rw [e]
      exact Int.le_refl _
    · have h1 := ih (by omega)
      cases hx : p[m]? with
      | none =>
        unfold outS at h1 ⊢
        rw [List.take_of_length_le (l := p) (i := m + 1) (by have := List.getElem?_eq_none_iff.mp hx; omega)]
        rw [List.take_of_length_le (l := p) (i := m) (by have := List.getElem?_eq_none_iff.mp hx; omega)] at h1
        exact h1
      | some x =>
        rw [outS_succ hx]
        have := hp x (List.mem_of_getElem? hx)
        omega
def outAll (r : Row α) : Int := outS r.2.2 r.2.2.length
theorem reach_sat {qs : List (Row α)} (G : Good qs) {c : α → Int} {r : Row α} (hr : r ∈ qs) {goal : α → Nat} {y : Int} (hy : outAll r ≤ y) (k : Reach qs (setC c r.1 y) goal) : Reach qs (setC c r.1 (outAll r)) goal := fun g wg sg => k g wg fun q hq x hx => by
  by_cases e : q.1 = r.1
  · have := row_eq G.nd hq hr e
    subst this
    exfalso
    have h1 := sg q hq x hx
    unfold held at h1
    rw [setC_same] at h1
    have h2 := outS_mono (G.pos q hq) (k := g q.1 + 1) (m := q.2.2.length) (List.getElem?_eq_some_iff.mp hx).1
    rw [outS_succ hx] at h2
    have h3 := got_nonneg G g q.1
    unfold outAll at h1
    omega
  · have h1 := sg q hq x hx
    unfold held at h1 ⊢
    rw [setC_ne e] at h1 ⊢
    exact h1
theorem setC_comm {c : α → Int} {z y : α} (n : z ≠ y) (u v : Int) : setC (setC c z u) y v = setC (setC c y v) z u := by
  funext t
  unfold setC
  by_cases h1 : t = y
  · rw [if_pos h1, if_neg (by rw [h1]; exact n.symm), if_pos h1]
  · rw [if_neg h1, if_neg h1]
/-- both have so much: all that is to be reached -/
def Both (qs : List (Row α)) (c : α → Int) (one other : α) (goal : α → Nat) (x y : Int) : Prop := Reach qs (setC (setC c other y) one x) goal
theorem both_mono {qs : List (Row α)} {c : α → Int} {one other : α} {goal : α → Nat} {x x' y y' : Int} (hx : x ≤ x') (hy : y ≤ y') (k : Both qs c one other goal x y) : Both qs c one other goal x' y' := reach_mono (fun r hr => by
  unfold setC
  split
  · exact hx
  · split
    · exact hy
    · exact Int.le_refl _) k
theorem both_comm {qs : List (Row α)} {c : α → Int} {one other : α} (n : one ≠ other) {goal : α → Nat} {x y : Int} : Both qs c one other goal x y ↔ Both qs c other one goal y x := by
  unfold Both
  rw [setC_comm n.symm]
theorem both_sat {qs : List (Row α)} (G : Good qs) {c : α → Int} {one : α} {r : Row α} (hr : r ∈ qs) (n : one ≠ r.1) {goal : α → Nat} {x y : Int} (k : Both qs c one r.1 goal x y) : Both qs c one r.1 goal x (outAll r) := by
  by_cases hy : y ≤ outAll r
  · exact both_mono (Int.le_refl _) hy k
  · rw [both_comm n] at k ⊢
    exact reach_sat G hr (by omega) k
theorem both_all {qs : List (Row α)} (G : Good qs) {c : α → Int} {one : α} {r : Row α} (hr : r ∈ qs) (n : one ≠ r.1) {goal : α → Nat} {s : Int} (hs : outAll r ≤ s) (h0 : 0 ≤ s) {x : Int} : (∃ y, 0 ≤ y ∧ Both qs c one r.1 goal x y) ↔ Both qs c one r.1 goal x s :=
  ⟨fun ⟨_, _, k⟩ => both_mono (Int.le_refl _) hs (both_sat G hr n k), fun k => ⟨s, h0, k⟩⟩
theorem need_least {qs : List (Row α)} {c : α → Int} {h : α} {goal : α → Nat} : ∀ {v : Option Int}, Need qs c h goal v → LeastI (fun u => Reach qs (setC c h u) goal) v
  | some _, k => k
  | none, k => k
end KQ
namespace NQ
open PySem PySem.Spec PyProof.Rows L2 Evl
open KQ (Row held setC Need Reach LeastI Both Stair StairFrom outAll)
theorem crSum {X : Cx} {K : PySem.W.Frag} (e : X.K = K) (hc : X.calm = true) : CallR X (.builtin "sum") (rSum K) := by
  subst e
  exact cr_sum hc
def sumAll (qs : List (Row Str)) : Int := (qs.map fun r => (r.2.2.map fun x => x.2).sum).sum
def spSum : Sp := fun vs H Q _ => ∃ a qs, vs = [.ref a] ∧ QH H a qs ∧ WellQ qs ∧ ∀ H', Ex H H' → Q (.int (sumAll qs)) H'
/-- what a house lacks for all to be paid -/
def lackO (r : Row Str) (v : Option Int) : Option Int := v.map fun x => if x - r.2.1 > 0 then x - r.2.1 else 0
def spLack : Sp := fun vs H Q _ => ∃ a qs r, vs = [.ref a, .str r.1] ∧ QH H a qs ∧ GoodQ qs ∧ r ∈ qs ∧ ∀ v H', Need qs (cashF qs) r.1 (KQ.lenOf qs) v → Ex H H' → Q (optV (lackO r v)) H'
def PreTwo : List V → Hp → Prop := fun vs H => ∃ a qs r q, vs = [.ref a, .str r.1, .str q.1] ∧ QH H a qs ∧ GoodQ qs ∧ r ∈ qs ∧ q ∈ qs ∧ r.1 ≠ q.1
/-- there are few steps -/
def FewSteps (qs : List (Row Str)) (r q : Row Str) : Prop := ∃ b : Int, 1 ≤ b ∧ outAll q ≤ 58 * b ∧ ∀ x y, 0 ≤ x → 0 ≤ y → Both qs (cashF qs) r.1 q.1 (KQ.lenOf qs) x y → Both qs (cashF qs) r.1 q.1 (KQ.lenOf qs) x (y / b * b)
abbrev StpH (H : Hp) (p : Addr) (x : Int × Int) : Prop := H p = some (.tup [.int x.1, .int x.2])
def StsH (H : Hp) (t : Addr) (l : List (Int × Int)) : Prop := ∃ ps : List Addr, H t = some (.tup (ps.map V.ref)) ∧ Paired (StpH H) ps l
theorem StsH.tx {H H' : Hp} {t : Addr} {l : List (Int × Int)} (h : StsH H t l) (e : TX H H') : StsH H' t l := by
  obtain ⟨ps, h1, h2⟩ := h
  exact ⟨ps, e _ _ h1, L2.Paired.mapP h2 fun p x hp => e _ _ hp⟩
def spPairs : Sp := fun vs H Q _ => ∃ a qs r q, vs = [.ref a, .str r.1, .str q.1] ∧ QH H a qs ∧ WellQ qs ∧ r ∈ qs ∧ q ∈ qs ∧ r.1 ≠ q.1 ∧ FewSteps qs r q ∧ ∀ t l H', Stair (Both qs (cashF qs) r.1 q.1 (KQ.lenOf qs)) l → Ex H H' → StsH H' t l → Q (.ref t) H'
def spStairs : Sp := fun vs H Q _ => ∃ a qs r q, vs = [.ref a, .str r.1, .str q.1] ∧ QH H a qs ∧ GoodQ qs ∧ r ∈ qs ∧ q ∈ qs ∧ r.1 ≠ q.1 ∧ FewSteps qs r q ∧ ∀ t l H', Stair (Both qs (cashF qs) r.1 q.1 (KQ.lenOf qs)) l → Ex H H' → StsH H' t l → Q (.ref t) H'
theorem out_sum (r : Row Str) : outAll r = (r.2.2.map fun x => x.2).sum := by
  unfold KQ.outAll KQ.outS
  rw [List.take_length]
theorem out_nonneg {qs : List (Row Str)} (W : WellQ qs) {r : Row Str} (hr : r ∈ qs) : 0 ≤ outAll r := by
  rw [out_sum]
  refine KQ.sum_nonneg fun x hx => ?_
  obtain ⟨y, hy, rfl⟩ := List.mem_map.mp hx
  have := W.pos r hr y hy
  omega
theorem out_le_sum : ∀ {qs : List (Row Str)}, (∀ r ∈ qs, 0 ≤ outAll r) → ∀ {r : Row Str}, r ∈ qs → outAll r ≤ sumAll qs
  | q :: qs, h, r, hr => by
    have hs : 0 ≤ sumAll qs := KQ.sum_nonneg fun x hx => by
      obtain ⟨y, hy, rfl⟩ := List.mem_map.mp hx
      have := h y (List.mem_cons_of_mem _ hy)
      rw [out_sum] at this
      exact this
    have e : sumAll (q :: qs) = outAll q + sumAll qs := by
      rw [out_sum]
      rfl
    have h0 := h q List.mem_cons_self
    rcases List.mem_cons.mp hr with e1 | e1
    · subst e1
      omega
    · have := out_le_sum (fun r hr => h r (List.mem_cons_of_mem _ hr)) e1
      omega
theorem reach_congr {qs : List (Row Str)} {c d : Str → Int} {goal : Str → Nat} (h : ∀ r ∈ qs, c r.1 = d r.1) : Reach qs c goal ↔ Reach qs d goal :=
  ⟨KQ.reach_mono fun r hr => Int.le_of_eq (h r hr), KQ.reach_mono fun r hr => Int.le_of_eq (h r hr).symm⟩
theorem few_least {qs : List (Row Str)} {r q : Row Str} {b : Int} (hb : 1 ≤ b) (hd : ∀ x y, 0 ≤ x → 0 ≤ y → Both qs (cashF qs) r.1 q.1 (KQ.lenOf qs) x y → Both qs (cashF qs) r.1 q.1 (KQ.lenOf qs) x (y / b * b)) {x y : Int} (hx : 0 ≤ x) (h : LeastI (fun y => Both qs (cashF qs) r.1 q.1 (KQ.lenOf qs) x y) (some y)) (h0 : y ≠ 0) : 0 ≤ y - b ∧ (y - 1) / b * b = y - b := by
  obtain ⟨a, k, m⟩ := h
  have h1 := m _ (Int.mul_nonneg (Int.ediv_nonneg a (by omega)) (by omega)) (hd x y hx a k)
  have h2 := Int.ediv_mul_le y (show b ≠ 0 by omega)
  have h3 : y = y / b * b := by omega
  have hk : 1 ≤ y / b := by
    have : 0 ≤ y / b := Int.ediv_nonneg a (by omega)
    by_cases e : y / b = 0
    · rw [e] at h3
      omega
    · omega
  have e : (y - 1) / b = y / b - 1 := by
    have e1 : y - 1 = (b - 1) + (y / b - 1) * b := by
      rw [Int.sub_mul]
      omega
    rw [e1, Int.add_mul_ediv_right _ _ (by omega), Int.ediv_eq_zero_of_lt (by omega) (by omega)]
    omega
  rw [e, Int.sub_mul, Int.one_mul, ← h3]
  refine ⟨?_, rfl⟩
  have := Int.mul_le_mul_of_nonneg_right hk (show 0 ≤ b by omega)
  omega
section
variable {K : PySem.W.Frag} {σ : L2.St} {H H' : Hp} {ta tb tc td te t1 t2 t3 : TE} {t : TT} {tr : TA} {D : Ends} {tz : TS} {x y z : V}
theorem ev_sum {ns : List Int} (h : EvL te σ H (ns.map V.int)) : Ev (tCB (rSum K) (tCons te tNil)) σ H (.int ns.sum) := fun H1 e Q q => by
  refine h H1 e _ fun p H2 _ e2 hp => ⟨p, ns, rfl, sq_of hp, q H2 e2⟩
theorem gv_needRich {a gl : Addr} {qs : List (Row Str)} {r q : Row Str} {v : Int} {goal : Str → Nat} (h1 : Ev t1 σ H (.ref a)) (hd : EvD td σ H [(Sum.inr q.1, .int v)]) (h2 : Ev t2 σ H (.str r.1)) (h3 : Ev t3 σ H (.ref gl)) (hq : QH H a qs) (W : WellQ qs) (hr : r ∈ qs) (hg : StH H gl qs goal) (hw : KQ.Within qs goal) :
    Gv (tOp (rIxT K) (tCall spNeeded [] E0 (tCons (tCall spRich [] E0 (tCons t1 (tCons td tNil))) (tCons t2 (tCons t3 tNil)))) (tC (.int 0))) σ H (fun w _ => ∃ o, w = optV o ∧ LeastI (fun u => Both qs (cashF qs) r.1 q.1 goal u v) o) := by
  refine gv_first (K := K) (qs := recash q.1 v qs) (r := (r.1, (if r.1 = q.1 then v else r.2.1), r.2.2)) (goal := goal) (R := fun o => LeastI (fun u => Both qs (cashF qs) r.1 q.1 goal u v) o) fun H1 e Q k => ?_
  refine gv_rich (K := K) h1 hd hq W.l40 H1 e _ fun w H2 e2 ⟨a', hw', hq'⟩ => ?_
  subst hw'
  refine h2 H2 (e.trans e2) _ fun H3 e3 => h3 H3 ((e.trans e2).trans e3) _ fun H4 e4 => ?_
  have e24 := e3.trans e4
  refine ⟨a', gl, recash q.1 v qs, (r.1, (if r.1 = q.1 then v else r.2.1), r.2.2), goal, rfl, hq'.tx (TX.of e24), recash_well W, recash_in hr, ?_, recash_within.mpr hw, fun o p H5 hn e5 hp => k _ H5 (e2.trans (e24.trans e5)) ⟨o, p, rfl, ?_, hp⟩⟩
  · show H4 gl = some (.tup (stV (recash q.1 v qs) goal))
    rw [recash_st]
    exact ((e.trans e2).trans e24) _ _ hg
  · refine KQ.leastI_congr (fun u hu => ?_) (KQ.need_least (recash_need hn))
    refine reach_congr fun s hs => ?_
    have h1 := recash_cash (c0 := v) W.nd _ (recash_in (z := q.1) (c0 := v) hs)
    have h2 := cashF_at (qs := recash q.1 v qs) (by rw [recash_names]; exact W.nd) (recash_in (z := q.1) (c0 := v) hs)
    have h3 : cashF (recash q.1 v qs) s.1 = setC (cashF qs) q.1 v s.1 := h2.trans h1.symm
    unfold KQ.setC at h3 ⊢
    by_cases e : s.1 = r.1
    · rw [if_pos e, if_pos e]
    · rw [if_neg e, if_neg e]
      exact h3
theorem gv_if {b : Bool} {P : V → Hp → Prop} (hc : EvT t σ H b) (h1 : b = true → ∀ H1, Ex H H1 → Gv ta σ H1 P) (h2 : b = false → ∀ H1, Ex H H1 → Gv tb σ H1 P) : Gv (tIf t ta tb) σ H P := fun H1 e Q q => by
  refine hc H1 e _ fun H2 e2 => ?_
  cases b with
  | true =>
    rw [if_pos rfl]
    exact h1 rfl H2 (e.trans e2) H2 (Ex.refl _) _ fun v H3 e3 hv => q v H3 (e2.trans e3) hv
  | false =>
    rw [if_neg Bool.false_ne_true]
    exact h2 rfl H2 (e.trans e2) H2 (Ex.refl _) _ fun v H3 e3 hv => q v H3 (e2.trans e3) hv
theorem ev_max2 {i j : Int} (ha : Ev ta σ H (.int i)) (hb : Ev tb σ H (.int j)) : Ev (tCB (fun xs H Q => ∃ i j, xs = [.int i, .int j] ∧ Q (.int (if j > i then j else i)) H) (tCons ta (tCons tb tNil))) σ H (.int (if j > i then j else i)) := fun H1 e Q q => by
  refine ha H1 e _ fun H2 e2 => hb H2 (e.trans e2) _ fun H3 e3 => ⟨i, j, rfl, q H3 (e2.trans e3)⟩
theorem ev_lenL {p : Addr} {xs : List V} (ha : Ev ta σ H (.ref p)) (h : SqL K H p xs) : Ev (tCB (rLenS K) (tCons ta tNil)) σ H (.int (xs.length : Int)) := fun H1 e Q q => by
  refine ha H1 e _ fun H2 e2 => ?_
  exact ⟨p, xs, rfl, Or.inl (ex_l (e.trans e2) h), q H2 e2⟩
theorem s_asgG {i : Nat} {P : V → Hp → Prop} (h : Gv te σ H P) (k : ∀ v H1, Ex H H1 → P v H1 → D.nx (σ.set i (some v)) H1) : tAsg te (gName i) D σ H := h H (Ex.refl H) _ fun v H1 e hv => k v H1 e hv
theorem gv_non : Gv (tC .non) σ H (fun w _ => w = .non) := gv_ev ev_c
theorem ev_ifE {b : Bool} {v : V} (hc : EvT t σ H b) (h1 : b = true → ∀ H1, Ex H H1 → Ev ta σ H1 v) (h2 : b = false → ∀ H1, Ex H H1 → Ev tb σ H1 v) : Ev (tIf t ta tb) σ H v := ev_gv (gv_if hc (fun h H1 e => gv_ev (h1 h H1 e)) fun h H1 e => gv_ev (h2 h H1 e))
/-- needed(queues, house, end_of_all(queues))[0] -/
theorem gv_needEnd {a : Addr} {qs : List (Row Str)} {r : Row Str} (h1 : Ev t1 σ H (.ref a)) (h2 : Ev t2 σ H (.str r.1)) (h3 : Ev t3 σ H (.ref a)) (hq : QH H a qs) (W : WellQ qs) (hr : r ∈ qs) :
    Gv (tOp (rIxT K) (tCall spNeeded [] E0 (tCons t1 (tCons t2 (tCons (tCall spEnd [] E0 (tCons t3 tNil)) tNil)))) (tC (.int 0))) σ H (fun w _ => ∃ o, w = optV o ∧ Need qs (cashF qs) r.1 (KQ.lenOf qs) o) := by
  refine gv_first (K := K) (qs := qs) (r := r) (goal := KQ.lenOf qs) fun H1 e Q k => ?_
  refine h1 H1 e _ fun H2 e2 => h2 H2 (e.trans e2) _ fun H3 e3 => ?_
  refine eu_end (ea_cons (h3.mono ((e.trans e2).trans e3)) ea_nil) (hq.tx (TX.of ((e.trans e2).trans e3))) W.l40 H3 (Ex.refl _) _ fun s H4 _ e4 hs => ?_
  have e24 := e2.trans (e3.trans e4)
  refine ⟨a, s, qs, r, KQ.lenOf qs, rfl, hq.tx (TX.of (e.trans e24)), W, hr, ?_, fun r hr => Nat.le_of_eq (KQ.lenOf_at W.nd hr), fun o p H5 hn e5 hp => k _ H5 (e24.trans e5) ⟨o, p, rfl, hn, hp⟩⟩
  show H4 s = some (.tup (stV qs (KQ.lenOf qs)))
  rw [hs]
  congr 2
  unfold stV
  exact List.map_congr_left fun q hq => by rw [KQ.lenOf_at W.nd hq]
theorem ev_sumAll {a : Addr} {qs : List (Row Str)} (h : EvA tr σ H [.ref a]) (hq : QH H a qs) (W : WellQ qs) : Ev (tCall spSum [] E0 tr) σ H (.int (sumAll qs)) := fun H1 e Q q => by
  refine h H1 e _ fun H2 e2 => ?_
  rw [List.append_nil]
  exact ⟨a, qs, rfl, hq.tx (TX.of (e.trans e2)), W, fun H' e3 => q H' (e2.trans e3)⟩
theorem q_parUL {i j : Nat} {xs ys : List V} (h1 : EvU ta σ H xs) (h2 : EvL tb σ H ys) (k : ∀ d l H1, H d = none → H l = none → d ≠ l → Ex H H1 → H1 d = some (.tup xs) → H1 l = some (.lst ys) → tz D ((σ.set i (some (.ref d))).set j (some (.ref l))) H1) :
    tSeq (tPar i j (tCons ta (tCons tb tNil))) tz D σ H := h1 H (Ex.refl H) _ fun d H1 hd0 e1 hd => h2 H1 e1 _ fun l H2 hl0 e2 hl => ⟨.ref d, .ref l, rfl, k d l H2 hd0 (fresh_back e1 hl0) (ne_of_none hd hl0) (e1.trans e2) (e2 _ _ hd) hl⟩
theorem q_appG {l : Addr} {xs : List V} {P : V → Hp → Prop} (hl : H l = some (.lst xs)) (ha : Ev ta σ H (.ref l)) (h : Gv te σ H P) (hz : xs.length < 100000) (k : ∀ v H1, Ex H H1 → P v H1 → tz D σ (upd H1 l (.lst (xs ++ [v])))) :
    tSeq (tDrop (tBM K "list" rAppend ta (tCons te tNil))) tz D σ H := s_appG (D := { D with nx := fun σ' H' => tz D σ' H' }) hl ha h hz k
theorem gv_pair (ha : Ev ta σ H x) (hb : Ev tb σ H y) : Gv (tTup (tCons ta (tCons tb tNil))) σ H (fun v H2 => ∃ p, v = .ref p ∧ H2 p = some (.tup [x, y])) := fun H1 e Q k => by
  refine ha H1 e _ fun H2 e2 => hb H2 (e.trans e2) _ fun H3 e3 => ⟨(by show 2 ≤ sizeLine; decide), fun p hp => ?_⟩
  exact k _ _ ((e2.trans e3).trans (Ex.new hp)) ⟨p, rfl, upd_same⟩
end
section
variable {P : Program} {w : World} {K : PySem.W.Frag} {mg : Str → Option Value} {base : Heap} {f : Addr} {fd : FuncData} {aK : Addr} {tk : Tk}
abbrev scI_sum_of_all : Scope := { kind := .function, names := [(".0", .local), ("part", .local), ("sum", .globalImplicit)], isGenerator := false, isCoroutine := false }
theorem ok_sum_of_all (F : Fun K "sum_of_all" "sum_of_all" s_sum_of_all f fd) (T : Tx K mg aK tk) : FnOk P w K mg base CX0 1 f fd ["queues"] spSum := by
  refine F.ok sc_sum_of_all (fun vs H Q E h => ?_) (fun cdv A outer s H vs Q E hr h => ?_)
  · obtain ⟨a, qs, rfl, _⟩ := h
    rfl
  · obtain ⟨a, qs, rfl, ⟨b, ha, ps, hb, hpr⟩, W, k⟩ := h
    have hu := hu_of hr
    refine ⟨_, (pss_one (ps_ret (pe_callB (crSum (K := K) rfl rfl) (by rfl) T.sum (by decide +kernel) (pa_cons (pe_lc (own := [("part", 3)]) rfl sc_sum_of_all.nd (piTup (K := K) rfl (pe_ix (ixT (K := K) rfl) (pv 0) pe_int (fun _ _ => rfl))) (blkOk_by (own := [("part", 3)]) (N := N_sum_of_all) (sc := defScope s_sum_of_all) (by decide +kernel)) (fun _ _ _ _ _ => (pg_name (i := 3) sc_sum_of_all.nd rfl (Or.inl rfl))) (fun _ _ _ _ _ => pts_nil) (fun _ _ _ _ _ => (pe_callB (crSum (K := K) rfl rfl) (by rfl) T.sum (by decide +kernel) (pa_cons (pe_lc (own := [("creditor", 1), ("amount", 2)]) rfl sc_sum_of_all.nd (piTup (K := K) rfl (pe_ix (ixT (K := K) rfl) (pv 3) pe_int (fun _ _ => rfl))) (blkOk_by (own := [("creditor", 1), ("amount", 2)]) (N := N_sum_of_all) (sc := scI_sum_of_all) (by decide +kernel)) (fun _ _ _ _ _ => (pgTup (K := K) (n := 2) rfl rfl (pgs_cons (pg_name (i := 1) sc_sum_of_all.nd rfl (Or.inl rfl)) (pgs_cons (pg_name (i := 2) sc_sum_of_all.nd rfl (Or.inl rfl)) pgs_nil)))) (fun _ _ _ _ _ => pts_nil) (fun _ _ _ _ _ => (pv 2))) pa_nil)))) pa_nil)))), ?_⟩
    have hlen : (ps.map V.ref).length = qs.length := by rw [List.length_map, paired_len hpr]
    have wk := el_lcV (te := tCB (rSum K) (tCons (tLc (iTup K (tOp (rIxT K) (tVar 3) (tC (.int 2)))) (gTup K 2 (gCons (gName 1) (gCons (gName 2) gNil))) tYes (tVar 2) [1, 2]) tNil)) (tt := tYes) (g := gName 3) (vs := [3]) (σ := [some (.ref a), none, none, none]) (H := H) (fun i => V.int ((qs.getD i rowD).2.2.map fun x => x.2).sum) (fun _ => true) (ei_tup (K := K) (eq_ev (ev_houses (K := K) (ev_var (i := 0) rfl) ha) (st_of hb))) (by rw [hlen]; have := W.l40; omega)
      fun i x H5 H6 e5 hi hy => by
        obtain ⟨rfl, hx⟩ := hy
        obtain ⟨p, r, rfl, _, hqr, q', hrow, ps', hp', hpr'⟩ := RowsH.at hpr hx
        refine ⟨Ex.refl _, _, fun R h => h, rfl, et_yes, fun _ => ?_⟩
        rw [getD_of hqr]
        have hl2 : (ps'.map V.ref).length = r.2.2.length := by rw [List.length_map, paired_len hpr']
        refine ev_sum ?_
        have w2 := el_lcV (te := tVar 2) (tt := tYes) (g := gTup K 2 (gCons (gName 1) (gCons (gName 2) gNil))) (vs := [1, 2]) (σ := [some (.ref a), none, none, some (.ref p)]) (fun j => V.int (r.2.2.getD j (("", 0) : Str × Int)).2) (fun _ => true) (ei_tup (K := K) (eq_ev (ev_op (ev_var (i := 3) rfl) ev_c (rv_ixT (K := K) (st_of (e5 _ _ hrow)) (at_of (j := 2) rfl rfl))) (st_of (e5 _ _ hp')))) (by rw [hl2]; have := W.len r (List.mem_of_getElem? hqr); omega)
          fun j x H7 H8 e7 hj hy => by
            obtain ⟨rfl, hx⟩ := hy
            obtain ⟨px, hpx, rfl⟩ := map_at hx
            obtain ⟨xx, hxx⟩ := get_of (l := r.2.2) (i := j) rfl (by rw [hl2] at hj; exact hj)
            have hh : H px = some (.tup [.str xx.1, .int xx.2]) := paired_at hpr' hpx hxx
            refine ⟨Ex.refl _, _, fun R h => g_tup2 ((e5.trans e7) _ _ hh) h, rfl, et_yes, fun _ => ?_⟩
            rw [getD_of hxx]
            exact ev_var rfl
        rw [hl2, idx_map (("", 0) : Str × Int) (fun x => V.int x.2) r.2.2 rfl] at w2
        rw [List.map_map]
        exact w2
    rw [hlen, idx_map rowD (fun r => V.int (r.2.2.map fun x => x.2).sum) qs rfl] at wk
    refine s_ret (ev_sum (ns := qs.map fun r : Row Str => (r.2.2.map fun x : Str × Int => x.2).sum) (by rw [List.map_map]; exact wk)) fun H2 e2 => k H2 e2
theorem ok_lack (F : Fun K "lack" "lack" s_lack f fd) (T : Tx K mg aK tk) (c_check_queues : Cal P w K mg base CX0 4 "check_queues" ["queues"] (spN PreQ)) (c_check_house : Cal P w K mg base CX0 2 "check_house" ["queues", "house"] (spN PreHouse)) (c_needed : Cal P w K mg base CX0 3 "needed" ["queues", "house", "goal"] spNeeded)
    (c_end_of_all : Cal P w K mg base CX0 1 "end_of_all" ["queues"] spEnd) (c_number_of : Cal P w K mg base CX0 1 "number_of" ["queues"] spNum) : FnOk P w K mg base CX0 5 f fd ["queues", "house"] spLack := by
  refine F.ok sc_lack (fun vs H Q E h => ?_) (fun cdv A outer s H vs Q E hr h => ?_)
  · obtain ⟨a, qs, r, rfl, _⟩ := h
    rfl
  · obtain ⟨a, qs, r, rfl, hq, g, hm, k⟩ := h
    have hu := hu_of hr
    refine ⟨_, (pss_cons (ps_expr (pe_cl c_check_queues hr (by decide) (by rfl) (pa_cons (pv 0) pa_nil)))
      (pss_cons (ps_expr (pe_cl c_check_house hr (by decide) (by rfl) (pa_cons (pv 0) (pa_cons (pv 1) pa_nil))))
      (pss_cons (ps_set (i := 2) sc_lack.nd rfl (Or.inl rfl) (pe_ix (ixT (K := K) rfl) (pe_cl c_needed hr (by decide) (by rfl) (pa_cons (pv 0) (pa_cons (pv 1) (pa_cons (pe_cl c_end_of_all hr (by decide) (by rfl) (pa_cons (pv 0) pa_nil)) pa_nil)))) pe_int (fun _ _ => rfl)))
      (pss_cons (ps_set (i := 3) sc_lack.nd rfl (Or.inl rfl) (pe_ix (ixT (K := K) rfl) (pe_ix (ixT (K := K) rfl) (pe_ix (ixT (K := K) rfl) (pv 0) pe_int (fun _ _ => rfl)) (pe_dget hu (pe_cl c_number_of hr (by decide) (by rfl) (pa_cons (pv 0) pa_nil)) (pv 1) (fun _ _ => rfl)) (fun _ _ => rfl)) pe_int (fun _ _ => rfl)))
      (pss_one (ps_ret (pe_ifExp (pt_cmpR op_isN (pv 2) pe_non (nomark _)) pe_non (pe_callB (call_max2 rfl) (by rfl) T.max (by decide +kernel) (pa_cons pe_int (pa_cons (pe_op op_sub (pv 2) (pv 3)) pa_nil)))))))))), ?_⟩
    refine q_drop (v := .non) (ev_callN (ea_cons (ev_var rfl) ea_nil) fun H1 e1 => ⟨a, qs, rfl, hq.tx (TX.of e1), g⟩) fun H1 e1 => ?_
    refine q_drop (v := .non) (ev_callN (ea_cons (ev_var rfl) (ea_cons (ev_var rfl) ea_nil)) fun H2 e2 => ⟨a, qs, r, rfl, hq.tx (TX.of (e1.trans e2)), g, hm⟩) fun H2 e2 => ?_
    have e12 := e1.trans e2
    refine q_asgG (gv_needEnd (K := K) (σ := [some (.ref a), some (.str r.1), none, none]) (ev_var (i := 0) rfl) (ev_var (i := 1) rfl) (ev_var (i := 0) rfl) (hq.tx (TX.of e12)) g.well hm) fun v H3 e3 ⟨o, hv, hn⟩ => ?_
    subst hv
    have e13 := e12.trans e3
    obtain ⟨b0, ha, ps, hb0, hpr⟩ := id hq
    obtain ⟨i, hqr⟩ := at_row hm
    obtain ⟨p, hp⟩ := get_of (l := ps) (i := i) rfl (by rw [paired_len hpr]; exact (List.getElem?_eq_some_iff.mp hqr).1)
    obtain ⟨q', hrow, _⟩ := paired_at hpr hp hqr
    refine q_asg (σ := [some (.ref a), some (.str r.1), some (optV o), none]) (v := .int r.2.1) (ev_op (ev_op (ev_houses (K := K) (ev_var (i := 0) rfl) (e13 _ _ ha)) (ed_dget (k := Sum.inr r.1) (ed_num (ea_cons (ev_var (i := 0) rfl) ea_nil) (hq.tx (TX.of e13)) g.well) (ev_var (i := 1) rfl) (numK_at g.well.nd hqr)) (rv_ixT (st_of (e13 _ _ hb0)) (at_of (j := i) rfl (by rw [List.getElem?_map, hp]; rfl)))) ev_c (rv_ixT (st_of (e13 _ _ hrow)) (at_of (j := 1) rfl rfl))) fun H4 e4 => ?_
    refine s_ret (v := optV (lackO r o)) (σ := [some (.ref a), some (.str r.1), some (optV o), some (.int r.2.1)]) (ev_ifE (et_test (ev_isNon (ev_var (i := 2) rfl))) (fun hb H5 _ => ?_) fun hb H5 _ => ?_) fun H5 e5 => k o H5 hn (e13.trans (e4.trans e5))
    · cases o with
      | none => exact ev_c
      | some u => cases of_decide_eq_true hb
    · cases o with
      | none => exact absurd rfl (of_decide_eq_false hb)
      | some u => exact ev_max2 (i := 0) (j := u - r.2.1) ev_c (ev_sub (ev_var (i := 2) rfl) (ev_var (i := 3) rfl))
theorem ok_check_two (F : Fun K "check_two" "check_two" s_check_two f fd) (T : Tx K mg aK tk) (c_check_queues : Cal P w K mg base CX0 4 "check_queues" ["queues"] (spN PreQ)) (c_check_house : Cal P w K mg base CX0 2 "check_house" ["queues", "house"] (spN PreHouse)) : FnOk P w K mg base CX0 5 f fd ["queues", "one", "other"] (spN PreTwo) := by
  refine F.ok sc_check_two (fun vs H Q E h => ?_) (fun cdv A outer s H vs Q E hr h => ?_)
  · obtain ⟨⟨a, qs, r, q, rfl, _⟩, _⟩ := h
    rfl
  · obtain ⟨⟨a, qs, r, q, rfl, hq, g, hr', hq', hn⟩, k⟩ := h
    have hu := hu_of hr
    refine ⟨_, (pss_cons (ps_expr (pe_cl c_check_queues hr (by decide) (by rfl) (pa_cons (pv 0) pa_nil)))
      (pss_cons (ps_expr (pe_cl c_check_house hr (by decide) (by rfl) (pa_cons (pv 0) (pa_cons (pv 1) pa_nil))))
      (pss_cons (ps_expr (pe_cl c_check_house hr (by decide) (by rfl) (pa_cons (pv 0) (pa_cons (pv 2) pa_nil))))
      (pss_one (ps_if (pt_cmpR op_eq (pv 1) (pv 2) (nomark _))
        (pss_one ps_never)
        pss_nil))))), ?_⟩
    refine q_drop (v := .non) (ev_callN (ea_cons (ev_var rfl) ea_nil) fun H1 e1 => ⟨a, qs, rfl, hq.tx (TX.of e1), g⟩) fun H1 e1 => ?_
    refine q_drop (v := .non) (ev_callN (ea_cons (ev_var rfl) (ea_cons (ev_var rfl) ea_nil)) fun H2 e2 => ⟨a, qs, r, rfl, hq.tx (TX.of (e1.trans e2)), g, hr'⟩) fun H2 e2 => ?_
    refine q_drop (v := .non) (ev_callN (ea_cons (ev_var rfl) (ea_cons (ev_var rfl) ea_nil)) fun H3 e3 => ⟨a, qs, q, rfl, hq.tx (TX.of ((e1.trans e2).trans e3)), g, hq'⟩) fun H3 e3 => ?_
    refine s_when (σ := [some (.ref a), some (.str r.1), some (.str q.1)]) (b := false) (et_is (et_test (ev_eqV rfl (ev_var (i := 1) rfl) (ev_var (i := 2) rfl))) (decide_eq_false fun z => hn (V.str.inj z))) (fun z => by cases z) fun _ H4 e4 => k _ _ (((e1.trans e2).trans e3).trans e4) rfl
theorem ok_needed_stairs (F : Fun K "needed_stairs" "needed_stairs" s_needed_stairs f fd) (T : Tx K mg aK tk) (c_check_two : Cal P w K mg base CX0 5 "check_two" ["queues", "one", "other"] (spN PreTwo)) (c_pairs_of : Cal P w K mg base CX0 4 "pairs_of" ["queues", "one", "other"] spPairs) : FnOk P w K mg base CX0 6 f fd ["queues", "one", "other"] spStairs := by
  refine F.ok sc_needed_stairs (fun vs H Q E h => ?_) (fun cdv A outer s H vs Q E hr h => ?_)
  · obtain ⟨a, qs, r, q, rfl, _⟩ := h
    rfl
  · obtain ⟨a, qs, r, q, rfl, hq, g, hr', hq', hn, hf, k⟩ := h
    have hu := hu_of hr
    refine ⟨_, (pss_cons (ps_expr (pe_cl c_check_two hr (by decide) (by rfl) (pa_cons (pv 0) (pa_cons (pv 1) (pa_cons (pv 2) pa_nil)))))
      (pss_one (ps_ret (pe_cl c_pairs_of hr (by decide) (by rfl) (pa_cons (pv 0) (pa_cons (pv 1) (pa_cons (pv 2) pa_nil))))))), ?_⟩
    refine q_drop (v := .non) (ev_callN (ea_cons (ev_var rfl) (ea_cons (ev_var rfl) (ea_cons (ev_var rfl) ea_nil))) fun H1 e1 => ⟨a, qs, r, q, rfl, hq.tx (TX.of e1), g, hr', hq', hn⟩) fun H1 e1 => ?_
    show tCall spPairs [] E0 (tCons (tVar 0) (tCons (tVar 1) (tCons (tVar 2) tNil))) [some (.ref a), some (.str r.1), some (.str q.1)] H1 Q
    refine (ea_cons (ev_var (i := 0) rfl) (ea_cons (ev_var (i := 1) rfl) (ea_cons (ev_var (i := 2) rfl) ea_nil)) : EvA _ [some (.ref a), some (.str r.1), some (.str q.1)] H1 [.ref a, .str r.1, .str q.1]) H1 (Ex.refl _) _ fun H2 e2 => ?_
    exact ⟨a, qs, r, q, rfl, hq.tx (TX.of (e1.trans e2)), g.well, hr', hq', hn, hf, fun t l H3 hl e3 ht => k t l H3 hl ((e1.trans e2).trans e3) ht⟩
theorem ok_pairs_of (F : Fun K "pairs_of" "pairs_of" s_pairs_of f fd) (T : Tx K mg aK tk) (c_end_of_all : Cal P w K mg base CX0 1 "end_of_all" ["queues"] spEnd) (c_needed : Cal P w K mg base CX0 3 "needed" ["queues", "house", "goal"] spNeeded) (c_rich : Cal P w K mg base CX0 1 "rich" ["queues", "cash"] spRich)
    (c_sum_of_all : Cal P w K mg base CX0 1 "sum_of_all" ["queues"] spSum) : FnOk P w K mg base CX0 4 f fd ["queues", "one", "other"] spPairs := by
  refine F.ok sc_pairs_of (fun vs H Q E h => ?_) (fun cdv A outer s H vs Q E hr h => ?_)
  · obtain ⟨a, qs, r, q, rfl, _⟩ := h
    rfl
  · obtain ⟨a, qs, r, q, rfl, hq, W, hr', hq', hn, ⟨b, hb1, hbT, hbd⟩, k⟩ := h
    have hu := hu_of hr
    refine ⟨_, (pss_cons (ps_par (i := 3) (j := 4) (by rfl) sc_pairs_of.nd rfl rfl (by decide) rfl rfl (pa_cons (pe_cl c_end_of_all hr (by decide) (by rfl) (pa_cons (pv 0) pa_nil)) (pa_cons (pe_lst pa_nil) pa_nil)) (by rfl))
      (pss_cons (ps_set (i := 5) sc_pairs_of.nd rfl (Or.inl rfl) (pe_ix (ixT (K := K) rfl) (pe_cl c_needed hr (by decide) (by rfl) (pa_cons (pe_cl c_rich hr (by decide) (by rfl) (pa_cons (pv 0) (pa_cons (pe_disp (pps_cons (pv 2) (pe_cl c_sum_of_all hr (by decide) (by rfl) (pa_cons (pv 0) pa_nil)) pps_nil) (by rfl) (by rfl) (fun z => by cases z) (by decide)) pa_nil))) (pa_cons (pv 1) (pa_cons (pv 3) pa_nil)))) pe_int (fun _ _ => rfl)))
      (pss_cons (ps_while PassesOwn.never (pt_cmpR op_notN (pv 5) pe_non (nomark _))
        (pss_cons (ps_set (i := 6) sc_pairs_of.nd rfl (Or.inl rfl) (pe_ix (ixT (K := K) rfl) (pe_cl c_needed hr (by decide) (by rfl) (pa_cons (pe_cl c_rich hr (by decide) (by rfl) (pa_cons (pv 0) (pa_cons (pe_disp (pps_cons (pv 1) (pv 5) pps_nil) (by rfl) (by rfl) (fun z => by cases z) (by decide)) pa_nil))) (pa_cons (pv 2) (pa_cons (pv 3) pa_nil)))) pe_int (fun _ _ => rfl)))
      (pss_cons (ps_expr (pe_bm PySem.F.plainAttrs_list PySem.F.slot_list_append PySem.F.type_list_append mt_append (pv 4) (pa_cons (pe_tup (pa_cons (pv 5) (pa_cons (pv 6) pa_nil))) pa_nil)))
      (pss_cons (ps_if (pt_cmpR op_gt (pe_callB (crLen (K := K) rfl) (by rfl) T.len (by decide +kernel) (pa_cons (pv 4) pa_nil)) (pe_glob (by rfl) T.g_MOST_PAIRS T.r_MOST_PAIRS) (nomark _))
        (pss_one ps_never)
        pss_nil)
      (pss_one (ps_set (i := 5) sc_pairs_of.nd rfl (Or.inl rfl) (pe_ifExp (pt_cmpR op_eq (pv 6) pe_int (nomark _)) pe_non (pe_ix (ixT (K := K) rfl) (pe_cl c_needed hr (by decide) (by rfl) (pa_cons (pe_cl c_rich hr (by decide) (by rfl) (pa_cons (pv 0) (pa_cons (pe_disp (pps_cons (pv 2) (pe_op op_sub (pv 6) pe_int) pps_nil) (by rfl) (by rfl) (fun z => by cases z) (by decide)) pa_nil))) (pa_cons (pv 1) (pa_cons (pv 3) pa_nil)))) pe_int (fun _ _ => rfl)))))))))
      (pss_one (ps_ret (pe_callTy (crTup (K := K) rfl) (by rfl) T.tuple (by decide +kernel) (pa_cons (pv 4) pa_nil))))))), ?_⟩
    have G := W.good
    have hw : KQ.Within qs (KQ.lenOf qs) := fun r hr => Nat.le_of_eq (KQ.lenOf_at W.nd hr)
    have hT0 := out_nonneg W hq'
    have hTS := out_le_sum (fun r hr => out_nonneg W hr) hq'
    refine q_parUL (σ := [some (.ref a), some (.str r.1), some (.str q.1), none, none, none, none]) (eu_end (ea_cons (ev_var (i := 0) rfl) ea_nil) hq W.l40) (el_lst ea_nil (by decide)) fun gl pl H1 hg0 hp0 hgp e1 hgl hpl => ?_
    have hgl : StH H1 gl qs (KQ.lenOf qs) := by
      show H1 gl = some (.tup (stV qs (KQ.lenOf qs)))
      rw [hgl]
      congr 2
      unfold stV
      exact List.map_congr_left fun q hq => by rw [KQ.lenOf_at W.nd hq]
    refine q_asgG (gv_needRich (K := K) (σ := [some (.ref a), some (.str r.1), some (.str q.1), some (.ref gl), some (.ref pl), none, none]) (r := r) (q := q) (ev_var (i := 0) rfl) (ed_disp1 (k := Sum.inr q.1) (ev_var (i := 2) rfl) (ev_sumAll (ea_cons (ev_var (i := 0) rfl) ea_nil) (hq.tx (TX.of e1)) W)) (ev_var (i := 1) rfl) (ev_var (i := 3) rfl) (hq.tx (TX.of e1)) W hr' hgl hw) fun v H2 e2 ⟨o, hv, ho⟩ => ?_
    subst hv
    have e12 := e1.trans e2
    refine q_while (fun m σ' H' => ∃ (l : List (Int × Int)) (ps : List Addr) (o : Option Int) (y6 : Option V), σ' = [some (.ref a), some (.str r.1), some (.str q.1), some (.ref gl), some (.ref pl), some (optV o), y6] ∧ m = 59 - l.length ∧ Ex H H' ∧ StH H' gl qs (KQ.lenOf qs) ∧ H' pl = some (.lst (ps.map V.ref)) ∧ Paired (StpH H') ps l ∧
        (∀ m, StairFrom (Both qs (cashF qs) r.1 q.1 (KQ.lenOf qs)) o m → Stair (Both qs (cashF qs) r.1 q.1 (KQ.lenOf qs)) (l ++ m)) ∧ ∀ x, o = some x → 0 ≤ x ∧ ∃ y, 0 ≤ y ∧ (l.length : Int) * b + y ≤ 58 * b ∧ Both qs (cashF qs) r.1 q.1 (KQ.lenOf qs) x y)
      59 ⟨[], [], o, none, rfl, rfl, e12, e2 _ _ hgl, e2 _ _ hpl, .nil, fun m hm => ⟨o, KQ.leastI_congr (fun u hu => (KQ.both_all G hq' hn hTS (Int.le_trans hT0 hTS)).symm) ho, hm⟩, fun x hx => by
        subst hx
        exact ⟨ho.1, outAll q, hT0, by show (0 : Int) * b + outAll q ≤ 58 * b; omega, KQ.both_sat G hq' hn ho.2.1⟩⟩ fun m σ' H' hP => ?_
    obtain ⟨l, ps, o, y6, rfl, rfl, eH, hgl', hpl', hpr, hrest, ho'⟩ := hP
    refine ⟨_, et_test (ev_notNon (ev_var (i := 5) rfl)), fun hb H3 e3 => ⟨_, fun _ _ h => h, ?_⟩, fun hb H3 e3 => ?_⟩
    · cases o with
      | none =>
        cases hb
      | some x =>
        obtain ⟨hx0, y0, hy0, hlen, hR0⟩ := ho' x rfl
        refine q_asgG (gv_needRich (K := K) (σ := [some (.ref a), some (.str r.1), some (.str q.1), some (.ref gl), some (.ref pl), some (.int x), y6]) (r := q) (q := r) (ev_var (i := 0) rfl) (ed_disp1 (k := Sum.inr r.1) (ev_var (i := 1) rfl) (ev_var (i := 5) rfl)) (ev_var (i := 2) rfl) (ev_var (i := 3) rfl) (hq.tx (TX.of (eH.trans e3))) W hq' (e3 _ _ hgl') hw) fun v H4 e4 ⟨o2, hv, ho2⟩ => ?_
        subst hv
        have e34 := e3.trans e4
        have ho2 := KQ.leastI_congr (fun u _ => KQ.both_comm hn.symm) ho2
        cases o2 with
        | none => exact absurd hR0 (ho2 y0 hy0)
        | some y =>
          have hyy : y ≤ y0 := ho2.2.2 y0 hy0 hR0
          have hy00 : 0 ≤ y := ho2.1
          have hl58 : l.length ≤ 58 := by
            by_cases z : (l.length : Int) ≤ 58
            · omega
            · have := Int.mul_le_mul_of_nonneg_right (show (59 : Int) ≤ l.length by omega) (show 0 ≤ b by omega)
              omega
          refine q_appG (K := K) (σ := [some (.ref a), some (.str r.1), some (.str q.1), some (.ref gl), some (.ref pl), some (.int x), some (.int y)]) (e34 _ _ hpl') (ev_var (i := 4) rfl) (gv_pair (ev_var (i := 5) rfl) (ev_var (i := 6) rfl)) (by rw [List.length_map, paired_len hpr]; omega) fun v H5 e5 ⟨p, hv, hp⟩ => ?_
          subst hv
          have e35 := e34.trans e5
          have hpl5 := e35 _ _ hpl'
          have tx : TX H5 (upd H5 pl (.lst (ps.map V.ref ++ [.ref p]))) := TX.updL hpl5
          have hprN : Paired (StpH (upd H5 pl (.lst (ps.map V.ref ++ [.ref p])))) (ps ++ [p]) (l ++ [(x, y)]) := paired_snoc (L2.Paired.mapP hpr fun p x hp => tx _ _ (e35 _ _ hp)) (tx _ _ hp)
          have hcell : upd H5 pl (.lst (ps.map V.ref ++ [.ref p])) pl = some (.lst ((ps ++ [p]).map V.ref)) := by rw [upd_same, List.map_append]; rfl
          have eN : Ex H (upd H5 pl (.lst (ps.map V.ref ++ [.ref p]))) := Ex.mut (eH.trans e35) hp0
          have hglN : StH (upd H5 pl (.lst (ps.map V.ref ++ [.ref p]))) gl qs (KQ.lenOf qs) := tx _ _ (e35 _ _ hgl')
          generalize upd H5 pl (.lst (ps.map V.ref ++ [.ref p])) = H6 at hprN hcell eN hglN ⊢
          refine q_when (σ := [some (.ref a), some (.str r.1), some (.str q.1), some (.ref gl), some (.ref pl), some (.int x), some (.int y)]) (b := false) (et_is (et_test (ev_gtV (j := 60) (ev_lenL (K := K) (ev_var (i := 4) rfl) (sq_of hcell)) ev_c)) (by rw [List.length_map, List.length_append, paired_len hpr]; exact decide_eq_false (by show ¬ (60 : Int) < ((l.length + 1 : Nat) : Int); omega))) (fun z => by cases z) (fun _ H7 e7 => ?_)
          refine s_asgG (σ := [some (.ref a), some (.str r.1), some (.str q.1), some (.ref gl), some (.ref pl), some (.int x), some (.int y)]) (gv_if (P := fun w _ => ∃ o3, w = optV o3 ∧ (if y = 0 then o3 = none else LeastI (fun u => Both qs (cashF qs) r.1 q.1 (KQ.lenOf qs) u (y - 1)) o3)) (et_test (ev_eqI (i := y) (j := 0) (ev_var (i := 6) rfl) ev_c)) (fun hb H8 e8 => gv_non.imp fun w H9 _ hw9 => ⟨none, hw9, by rw [if_pos (of_decide_eq_true hb)]⟩) (fun hb H8 e8 => (gv_needRich (K := K) (r := r) (q := q) (ev_var (i := 0) rfl) (ed_disp1 (k := Sum.inr q.1) (ev_var (i := 2) rfl) (ev_sub (j := 1) (ev_var (i := 6) rfl) ev_c)) (ev_var (i := 1) rfl) (ev_var (i := 3) rfl) (hq.tx (TX.of (eN.trans (e7.trans e8)))) W hr' ((e7.trans e8) _ _ hglN) hw).imp fun w H9 _ ⟨o3, h1, h2⟩ => ⟨o3, h1, by rw [if_neg (of_decide_eq_false hb)]; exact h2⟩)) fun w H8 e8 ⟨o3, hw3, ho3⟩ => ?_
          subst hw3
          have e78 := e7.trans e8
          refine ⟨59 - (l ++ [(x, y)]).length, by rw [List.length_append, List.length_singleton]; omega, l ++ [(x, y)], ps ++ [p], o3, some (.int y), rfl, rfl, eN.trans e78, e78 _ _ hglN, e78 _ _ hcell, L2.Paired.mapP hprN fun p x hp => e78 _ _ hp, fun m hm => ?_, fun u hu => ?_⟩
          · rw [List.append_assoc]
            exact hrest ([(x, y)] ++ m) ⟨rfl, ho2, o3, ho3, hm⟩
          · subst hu
            by_cases h0 : y = 0
            · rw [if_pos h0] at ho3
              cases ho3
            · rw [if_neg h0] at ho3
              obtain ⟨f1, f2⟩ := few_least hb1 hbd hx0 ho2 h0
              have hR := hbd u (y - 1) ho3.1 (by omega) ho3.2.1
              rw [f2] at hR
              refine ⟨ho3.1, y - b, f1, ?_, hR⟩
              rw [List.length_append, List.length_singleton]
              show ((l.length + 1 : Nat) : Int) * b + (y - b) ≤ 58 * b
              have : ((l.length + 1 : Nat) : Int) * b = (l.length : Int) * b + b := by
                rw [Int.natCast_add, Int.add_mul]
                omega
              omega
    · cases o with
      | some x => cases hb
      | none =>
        refine s_retG (gv_W (ew_of (eu_tupQ (K := K) (σ := [some (.ref a), some (.str r.1), some (.str q.1), some (.ref gl), some (.ref pl), some .non, y6]) (ta := tVar 4) (eql_ev (ev_var (i := 4) rfl) (sq_of (e3 _ _ hpl')))))) fun v H4 e4 ⟨t, hv, ht⟩ => ?_
        subst hv
        have hst := hrest [] trivial
        rw [List.append_nil] at hst
        exact k t l H4 hst (eH.trans (e3.trans e4)) ⟨ps, ht, L2.Paired.mapP hpr fun p x hp => (e3.trans e4) _ _ hp⟩
end
end NQ
namespace NQ
open PySem PySem.Spec PyProof.Rows L2 Evl
/-! ### the source of draws -/
abbrev kWide : Key := Sum.inr "wide"
abbrev kCells : Key := Sum.inr "cells"
abbrev kRest : Key := Sum.inr "rest"
abbrev kTurn : Key := Sum.inr "turn"
theorem ne_wr : ¬ kWide = kRest := by decide +kernel
theorem ne_wt : ¬ kWide = kTurn := by decide +kernel
theorem ne_cr : ¬ kCells = kRest := by decide +kernel
theorem ne_ct : ¬ kCells = kTurn := by decide +kernel
theorem ne_rt : ¬ kRest = kTurn := by decide +kernel
theorem ne_tr : ¬ kTurn = kRest := by decide +kernel
/-- the draws at a: the large numbers at l, the cells at c; at most N turns so far -/
structure Dr (a l c : Addr) (N : Nat) (H : Hp) : Prop where
  ex : ∃ (kvs : List (Key × V)) (lg cs : List Int) (rest turn : Int), H a = some (.dK kvs) ∧ kvs.length ≤ 100 ∧ valV kvs kWide = some (.ref l) ∧ valV kvs kCells = some (.ref c) ∧ valV kvs kRest = some (.int rest) ∧ valV kvs kTurn = some (.int turn) ∧
    H l = some (.lst (lg.map V.int)) ∧ H c = some (.lst (cs.map V.int)) ∧ l ≠ c ∧ (∀ x ∈ lg, 0 ≤ x) ∧ (∀ x ∈ cs, 0 ≤ x) ∧ 0 ≤ rest ∧ 0 ≤ turn ∧ turn ≤ (N : Int) ∧ lg.length ≤ 100 ∧ cs.length ≤ 100
theorem Dr.mono {a l c : Addr} {N : Nat} {H H' : Hp} (h : Dr a l c N H) (e : Ex H H') : Dr a l c N H' := by
  obtain ⟨kvs, lg, cs, rest, turn, h1, h2, h3, h4, h5, h6, h7, h8, h9⟩ := h.ex
  exact ⟨kvs, lg, cs, rest, turn, e _ _ h1, h2, h3, h4, h5, h6, e _ _ h7, e _ _ h8, h9⟩
theorem Dr.up {a l c : Addr} {N M : Nat} {H : Hp} (h : Dr a l c N H) (hm : N ≤ M) : Dr a l c M H := by
  obtain ⟨kvs, lg, cs, rest, turn, h1, h2, h3, h4, h5, h6, h7, h8, h9, h10, h11, h12, h13, h14, h15⟩ := h.ex
  exact ⟨kvs, lg, cs, rest, turn, h1, h2, h3, h4, h5, h6, h7, h8, h9, h10, h11, h12, h13, by omega, h15⟩
theorem Dr.rest {a l c : Addr} {N : Nat} {H : Hp} (h : Dr a l c N H) {v : Int} (hv : 0 ≤ v) : ∃ kvs, H a = some (.dK kvs) ∧ kvs.length < sizeLine ∧ Dr a l c N (upd H a (.dK (putK kvs kRest (.int v)))) ∧ ExD a l H (upd H a (.dK (putK kvs kRest (.int v)))) := by
  obtain ⟨kvs, lg, cs, rest, turn, h1, h2, h3, h4, h5, h6, h7, h8, h9, h10, h11, h12, h13, h14, h15⟩ := h.ex
  have nl : l ≠ a := ne_of h7 h1 (by intro z; cases z)
  have nc : c ≠ a := ne_of h8 h1 (by intro z; cases z)
  refine ⟨kvs, h1, small1000 (by omega), ⟨putK kvs kRest (.int v), lg, cs, v, turn, upd_same, by rw [putK_len h5]; exact h2, by rw [valV_put, if_neg ne_wr]; exact h3, by rw [valV_put, if_neg ne_cr]; exact h4, by rw [valV_put, if_pos rfl],
    by rw [valV_put, if_neg ne_tr]; exact h6, by rw [upd_ne nl]; exact h7, by rw [upd_ne nc]; exact h8, h9, h10, h11, hv, h13, h14, h15⟩, fun b o e n1 n2 => by rw [upd_ne n1]; exact e⟩
theorem Dr.turn {a l c : Addr} {N : Nat} {H : Hp} (h : Dr a l c N H) {v : Int} (hv : 0 ≤ v) (hn : v ≤ (N : Int) + 1) : ∃ kvs, H a = some (.dK kvs) ∧ kvs.length < sizeLine ∧ Dr a l c (N + 1) (upd H a (.dK (putK kvs kTurn (.int v)))) ∧ ExD a l H (upd H a (.dK (putK kvs kTurn (.int v)))) := by
  obtain ⟨kvs, lg, cs, rest, turn, h1, h2, h3, h4, h5, h6, h7, h8, h9, h10, h11, h12, h13, h14, h15⟩ := h.ex
  have nl : l ≠ a := ne_of h7 h1 (by intro z; cases z)
  have nc : c ≠ a := ne_of h8 h1 (by intro z; cases z)
  refine ⟨kvs, h1, small1000 (by omega), ⟨putK kvs kTurn (.int v), lg, cs, rest, v, upd_same, by rw [putK_len h6]; exact h2, by rw [valV_put, if_neg ne_wt]; exact h3, by rw [valV_put, if_neg ne_ct]; exact h4, by rw [valV_put, if_neg ne_rt]; exact h5,
    by rw [valV_put, if_pos rfl], by rw [upd_ne nl]; exact h7, by rw [upd_ne nc]; exact h8, h9, h10, h11, h12, hv, by omega, h15⟩, fun b o e n1 n2 => by rw [upd_ne n1]; exact e⟩
/-- a number drawn -/
def spMixed : Sp := fun vs H Q _ => ∃ a l c N, vs = [.ref a] ∧ Dr a l c N H ∧ N < 1000000 ∧ ∀ v H', 0 ≤ v → Dr a l c (N + 1) H' → ExD a l H H' → Q (.int v) H'
def spTake : Sp := fun vs H Q _ => ∃ a l c N size, vs = [.ref a, .int size] ∧ Dr a l c N H ∧ N < 1000000 ∧ 0 < size ∧ size < 100000 ∧ ∀ v H', 0 ≤ v → v < size → Dr a l c (N + 1) H' → ExD a l H H' → Q (.int v) H'
section
variable {P : Program} {w : World} {K : PySem.W.Frag} {mg : Str → Option Value} {base : Heap} {f : Addr} {fd : FuncData} {aK : Addr} {tk : Tk}
theorem mulL {i : Int} (h0 : 0 ≤ i) (h1 : i < 2 ^ 40) (j : Int) : CMul i j := Or.inl ⟨by omega, by omega⟩
theorem ok__law_mixed (F : Fun K "_law_mixed" "_law_mixed" s__law_mixed f fd) (T : Tx K mg aK tk) : FnOk P w K mg base CX0 1 f fd ["draw"] spMixed := by
  refine F.ok sc__law_mixed (fun vs H Q E h => ?_) (fun cdv A outer s H vs Q E hr h => ?_)
  · obtain ⟨a, l, c, N, rfl, _⟩ := h
    rfl
  · obtain ⟨a, l, c, N, rfl, hD, hN, q⟩ := h
    have hu := hu_of hr
    refine ⟨_, (pss_cons (ps_par (i := 1) (j := 2) (by rfl) sc__law_mixed.nd rfl rfl (by decide) rfl rfl (pa_cons (pe_op op_add (pe_dget hu (pv 0) pe_str (fun _ _ => rfl)) pe_int) (pa_cons pe_int pa_nil)) (by rfl))
      (pss_cons (ps_dput hu (pv 0) pe_str (pv 1) rfl)
      (pss_cons (ps_for PassesOwn.never rfl (piLst (K := K) rfl (pe_lst (pa_cons pe_int (pa_cons pe_int (pa_cons pe_int (pa_cons pe_int pa_nil)))))) (pg_name (i := 3) sc__law_mixed.nd rfl (Or.inl rfl))
        (pss_cons (ps_set (i := 4) sc__law_mixed.nd rfl (Or.inl rfl) (pe_op op_add (pe_op op_mul pe_int (pv 1)) (pe_op op_fdiv (pv 3) pe_int)))
      (pss_cons (ps_for PassesOwn.never rfl (piLst (K := K) rfl (pe_dget hu (pv 0) pe_str (fun _ _ => rfl))) (pg_name (i := 5) sc__law_mixed.nd rfl (Or.inl rfl))
        (pss_one (ps_set (i := 4) sc__law_mixed.nd rfl (Or.inl rfl) (pe_op op_mod (pe_callTy call_int1 (by rfl) T.int (by decide +kernel) (pa_cons (pe_op op_add (pe_op op_add (pe_op op_mul (pv 4) pe_int) (pv 5)) (pv 1)) pa_nil)) (pv 3)))))
      (pss_one (ps_set (i := 2) sc__law_mixed.nd rfl (Or.inl rfl) (pe_op op_add (pe_op op_mul (pv 2) pe_int) (pe_op op_mod (pe_callTy call_int1 (by rfl) T.int (by decide +kernel) (pa_cons (pe_op op_pow (pv 4) pe_int) pa_nil)) (pv 3))))))))
      (pss_one (ps_ret (pv 2)))))), ?_⟩
    obtain ⟨kvs, lg, cs, rest, turn, h1, h2, h3, h4, h5, h6, h7, h8, h9, h10, h11, h12, h13, h14, h15, h16⟩ := hD.ex
    -- turn, found = draw['turn'] + 1, 0
    have hturn : Ev (tDGet (tVar 0) (tC (.str "turn"))) [some (.ref a), none, none, none, none, none] H (.int turn) := ev_dget (k := kTurn) (ev_var rfl) (ev_c (v := kV kTurn)) h1 h6
    refine q_par (ea_cons (ev_add hturn (ev_c (v := .int 1))) (ea_cons (ev_c (v := .int 0)) ea_nil)) fun H1 e1 => ?_
    -- draw['turn'] = turn
    refine q_dput (σ := [some (.ref a), some (.int (turn + 1)), some (.int 0), none, none, none]) (a := a) (k := kTurn) (v := .int (turn + 1)) (ev_var rfl) (ev_var rfl) (ev_c (v := kV kTurn)) fun H1' e1' => ?_
    have e11 := e1.trans e1'
    obtain ⟨kv2, g1, g2, g3, g4⟩ := (hD.mono e11).turn (v := turn + 1) (by omega) (by omega)
    refine ⟨kv2, g1, g2, ?_⟩
    generalize upd H1' a (.dK (putK kv2 kTurn (.int (turn + 1)))) = H2 at g3 g4
    obtain ⟨kv4, lg4, cs4, rest4, turn4, k1, k2, k3, k4, k5, k6, k7, k8, k9, k10, k11, k12⟩ := g3.ex
    -- the primes
    refine q_forQL (eql_of (el_lst (ea_cons (ev_c (v := .int 2147483647)) (ea_cons (ev_c (v := .int 2147483629)) (ea_cons (ev_c (v := .int 2147483587)) (ea_cons (ev_c (v := .int 2147483579)) ea_nil)))) (by show 4 ≤ 100000; omega)))
      (fun i σ' H' => ∃ (fo : Int) (y3 y4 y5 : Option V), σ' = [some (.ref a), some (.int (turn + 1)), some (.int fo), y3, y4, y5] ∧ 0 ≤ fo) (fun H3 _ => ⟨0, none, none, none, rfl, Int.le_refl 0⟩) ?_ ?_
    · rintro i x σ' H3 H' N' e3 hx e3' ⟨fo, y3, y4, y5, rfl, hfo⟩ hN'
      have e := e3.trans e3'
      obtain ⟨pr, rfl, hpr0, hpr1⟩ : ∃ pr : Int, x = .int pr ∧ 0 < pr ∧ pr < 2 ^ 32 := by
        have hm := List.mem_of_getElem? hx
        simp only [List.mem_cons, List.not_mem_nil, or_false] at hm
        rcases hm with rfl | rfl | rfl | rfl
        · exact ⟨_, rfl, by decide, by decide⟩
        · exact ⟨_, rfl, by decide, by decide⟩
        · exact ⟨_, rfl, by decide, by decide⟩
        · exact ⟨_, rfl, by decide, by decide⟩
      -- blend
      refine q_asg (v := .int (48271 * (turn + 1) + pr / 37)) (σ := [some (.ref a), some (.int (turn + 1)), some (.int fo), some (.int pr), y4, y5]) (ev_add (ev_mul ev_c (ev_var rfl) (Or.inl ⟨by decide, by decide⟩)) (ev_fdiv (ev_var rfl) ev_c ⟨by decide, by decide⟩)) fun H5 e5 => ?_
      have hst0 : 0 ≤ 48271 * (turn + 1) + pr / 37 := by omega
      have hst1 : 48271 * (turn + 1) + pr / 37 < 2 ^ 60 := by omega
      generalize 48271 * (turn + 1) + pr / 37 = st at hst0 hst1
      -- for grain in draw['cells']
      refine q_forQL (σ := [some (.ref a), some (.int (turn + 1)), some (.int fo), some (.int pr), some (.int st), y5]) (xs := cs4.map V.int) (eql_ev (ev_dget (k := kCells) (ev_var rfl) (ev_c (v := kV kCells)) ((e.trans e5) _ _ k1) k4) (sq_of ((e.trans e5) _ _ k8)))
        (fun i σ' H' => ∃ (st' : Int) (y5' : Option V), σ' = [some (.ref a), some (.int (turn + 1)), some (.int fo), some (.int pr), some (.int st'), y5'] ∧ 0 ≤ st' ∧ st' < 2 ^ 60) (fun H6 _ => ⟨st, y5, rfl, hst0, hst1⟩) ?_ ?_
      · rintro j y σ'' H6 H'' N'' e6 hy e6' ⟨st', y5', rfl, s0, s1⟩ hN''
        obtain ⟨ce, hce, rfl⟩ := map_at hy
        have hce0 := k11 ce (List.mem_of_getElem? hce)
        refine s_asg (v := .int ((st' * 69621 + ce + (turn + 1)) % pr)) (σ := [some (.ref a), some (.int (turn + 1)), some (.int fo), some (.int pr), some (.int st'), some (.int ce)]) (ev_mod (ev_int (ev_add (ev_add (ev_mul (ev_var rfl) ev_c (Or.inr ⟨by decide, by decide⟩)) (ev_var rfl)) (ev_var rfl))) (ev_var rfl) hpr0) fun H7 e7 => ?_
        refine hN'' _ _ e7 ⟨_, _, rfl, Int.emod_nonneg _ (by omega), ?_⟩
        have := Int.emod_lt_of_pos (st' * 69621 + ce + (turn + 1)) hpr0
        omega
      · rintro σ'' H'' e6 ⟨st', y5', rfl, s0, s1⟩
        -- found
        refine s_asg (v := .int (fo * 2147483647 + st' ^ (5 : Int).toNat % pr)) (ev_add (ev_mul (ev_var rfl) ev_c (Or.inr ⟨by decide, by decide⟩)) (ev_mod (ev_int (ev_pow (ev_var rfl) ev_c ⟨by decide, by decide, by omega⟩)) (ev_var rfl) hpr0)) fun H7 e7 => ?_
        refine hN' _ _ ((e5.trans e6).trans e7) ⟨_, _, _, _, rfl, ?_⟩
        have := Int.emod_nonneg (st' ^ (5 : Int).toNat) (show pr ≠ 0 by omega)
        omega
    · rintro σ' H' e ⟨fo, y3, y4, y5, rfl, hfo⟩
      refine s_ret (v := .int fo) (ev_var rfl) fun H4 e4 => ?_
      have e24 := e.trans e4
      exact q fo H4 hfo (g3.mono e24) (((ExD.of e11).trans g4).trans (ExD.of e24))
end
end NQ
namespace NQ
open PySem PySem.Spec PyProof.Rows L2 Evl
theorem ExD.dK {a l b : Addr} {H H' : Hp} {xs : List V} (e : ExD a l H H') (h : H b = some (.tup xs)) {kvs : List (Key × V)} {ys : List V} (ha : H a = some (.dK kvs)) (hl : H l = some (.lst ys)) : H' b = some (.tup xs) :=
  e b _ h (ne_of h ha (by intro z; cases z)) (ne_of h hl (by intro z; cases z))
section
variable {P : Program} {w : World} {K : PySem.W.Frag} {mg : Str → Option Value} {base : Heap} {f : Addr} {fd : FuncData} {aK : Addr} {tk : Tk}
theorem ok__law_take (F : Fun K "_law_take" "_law_take" s__law_take f fd) (T : Tx K mg aK tk) (c__law_mixed : Cal P w K mg base CX0 1 "_law_mixed" ["draw"] spMixed) : FnOk P w K mg base CX0 2 f fd ["draw", "many"] spTake := by
  refine F.ok sc__law_take (fun vs H Q E h => ?_) (fun cdv A outer s H vs Q E hr h => ?_)
  · obtain ⟨a, l, c, N, size, rfl, _⟩ := h
    rfl
  · obtain ⟨a, l, c, N, size, rfl, hD, hN, s0, s1, q⟩ := h
    have hu := hu_of hr
    refine ⟨_, (pss_cons (ps_if (pt_cmpR op_eq (pe_dget hu (pv 0) pe_str (fun _ _ => rfl)) pe_int (nomark _))
        (pss_one (ps_dput hu (pv 0) pe_str (pe_ifExp (pt_cmpR (opNeD (K := K) rfl hr.units) (pe_dget hu (pv 0) pe_str (fun _ _ => rfl)) (pe_lst pa_nil) (nomark _)) (pe_bm PySem.F.plainAttrs_list PySem.F.slot_list_pop PySem.F.type_list_pop mt_popAt (pe_dget hu (pv 0) pe_str (fun _ _ => rfl)) (pa_cons pe_int pa_nil)) (pe_cl c__law_mixed hr (by decide) (by rfl) (pa_cons (pv 0) pa_nil))) rfl))
        pss_nil)
      (pss_cons (ps_set (i := 2) sc__law_take.nd rfl (Or.inl rfl) (pe_op op_mod (pe_callTy call_int1 (by rfl) T.int (by decide +kernel) (pa_cons (pe_dget hu (pv 0) pe_str (fun _ _ => rfl)) pa_nil)) (pv 1)))
      (pss_cons (ps_dput hu (pv 0) pe_str (pe_op op_fdiv (pe_dget hu (pv 0) pe_str (fun _ _ => rfl)) (pv 1)) rfl)
      (pss_one (ps_ret (pv 2)))))), ?_⟩
    -- what follows the if
    have fin : ∀ (H2 : Hp) (t : TS), Dr a l c (N + 1) H2 → ExD a l H H2 → tSeq (tAsg (tOp (rI (fun _ j => 0 < j) fun i j => .int (i % j)) (tCB (fun xs H Q => (∃ i, xs = [.int i] ∧ Q (.int i) H) ∨ ∃ k, xs = [.bl k] ∧ Q (.int (if k then 1 else 0)) H) (tCons (tDGet (tVar 0) (tC (.str "rest"))) tNil)) (tVar 1)) (gName 2))
        (tSeq (sDPut (tVar 0) (tC (.str "rest")) (tOp (rI CDiv fun i j => .int (i / j)) (tDGet (tVar 0) (tC (.str "rest"))) (tVar 1))) (tRet (tVar 2)))
        { nx := fun _ H' => Q .non H', rt := Q } [some (.ref a), some (.int size), none] H2 := fun H2 _ d2 e2 => by
      obtain ⟨kvs, lg, cs, rest, turn, h1, h2, h3, h4, h5, h6, h7, h8, h9, h10, h11, h12, h13⟩ := d2.ex
      have hget : ∀ (H3 : Hp) (y : Option V), Ex H2 H3 → Ev (tDGet (tVar 0) (tC (.str "rest"))) [some (.ref a), some (.int size), y] H3 (.int rest) := fun H3 y e => ev_dget (k := kRest) (ev_var rfl) (ev_c (v := kV kRest)) (e _ _ h1) h5
      refine q_asg (v := .int (rest % size)) (ev_mod (ev_int (hget H2 none (Ex.refl _))) (ev_var rfl) s0) fun H3 e3 => ?_
      refine q_dput (σ := [some (.ref a), some (.int size), some (.int (rest % size))]) (a := a) (k := kRest) (v := .int (rest / size)) (ev_fdiv (hget H3 _ e3) (ev_var rfl) ⟨s0, by omega⟩) (ev_var rfl) (ev_c (v := kV kRest)) fun H4 e4 => ?_
      have e24 := e3.trans e4
      obtain ⟨kv5, g1, g2, g3, g4⟩ := (d2.mono e24).rest (v := rest / size) (Int.ediv_nonneg h12 (by omega))
      refine ⟨kv5, g1, g2, ?_⟩
      refine s_ret (v := .int (rest % size)) (ev_var rfl) fun H5 e5 => ?_
      exact q _ H5 (Int.emod_nonneg _ (by omega)) (Int.emod_lt_of_pos _ s0) (g3.mono e5) (((e2.trans (ExD.of e24)).trans g4).trans (ExD.of e5))
    obtain ⟨kvs, lg, cs, rest, turn, h1, h2, h3, h4, h5, h6, h7, h8, h9, h10, h11, h12, h13, h14, h15, h16⟩ := hD.ex
    have hrest : Ev (tDGet (tVar 0) (tC (.str "rest"))) [some (.ref a), some (.int size), none] H (.int rest) := ev_dget (k := kRest) (ev_var rfl) (ev_c (v := kV kRest)) h1 h5
    refine (et_test (ev_op hrest ev_c (rv_eq rfl))) H (Ex.refl H) _ fun H1 e1 => ?_
    by_cases hz : rest = 0
    · rw [decide_eq_true (show V.int rest = V.int 0 by rw [hz]), if_pos rfl]
      have d1 := hD.mono e1
      -- the value
      have hlarge : ∀ (H3 : Hp), Ex H1 H3 → Ev (tDGet (tVar 0) (tC (.str "wide"))) [some (.ref a), some (.int size), none] H3 (.ref l) := fun H3 e => ev_dget (k := kWide) (ev_var rfl) (ev_c (v := kV kWide)) ((e1.trans e) _ _ h1) h3
      have stored : ∀ (G : Hp → Prop), (∀ H4, Dr a l c (N + 1) H4 → ExD a l H H4 → G H4) → ∀ (v : Int) (H3 : Hp), 0 ≤ v → Dr a l c (N + 1) H3 → ExD a l H H3 →
          (tVar 0 [some (.ref a), some (.int size), none] H3 fun x H2 => (tC (.str "rest")) [some (.ref a), some (.int size), none] H2 fun y H3 => ∃ a' H4, x = .ref a' ∧ DPut H3 a' y (.int v) H4 ∧ G H4) := fun G hG v H3 hv d3 e3 => by
        refine ⟨.ref a, rfl, ?_⟩
        obtain ⟨kv5, g1, g2, g3, g4⟩ := d3.rest hv
        exact ⟨a, _, rfl, DPut.k (k := kRest) g1 g2, hG _ g3 (e3.trans g4)⟩
      refine (et_test (ev_neNil (ds := lg.map PyData.int) (hlarge H1 (Ex.refl _)) (e1 _ _ h7) (dp_ints _ lg) (fun _ _ => dp_ints _ lg) (shaped_ints lg))) H1 (Ex.refl _) _ fun H2 e2 => ?_
      cases lg with
      | nil =>
        rw [show (!(([] : List Int).map V.int).isEmpty) = false from rfl, if_neg Bool.false_ne_true]
        -- blend
        refine ⟨.ref a, rfl, a, l, c, N, rfl, d1.mono e2, hN, fun v H3 hv d3 e3 => stored _ (fun H4 d e => fin H4 tNext d e) v H3 hv d3 ((ExD.of (e1.trans e2)).trans e3)⟩
      | cons x0 lr =>
        rw [show (!((x0 :: lr).map V.int).isEmpty) = true from rfl, if_pos rfl]
        -- pop(0)
        refine hlarge H1 (Ex.refl _) H2 e2 _ fun H3 e3 => ?_
        have e13 := (e1.trans e2).trans e3
        refine ⟨Or.inl ⟨rfl, _, sq_of (e13 _ _ h7)⟩, ?_⟩
        refine ⟨l, _, 0, 0, .int x0, rfl, rfl, e13 _ _ h7, by decide, by decide, ?_, rfl, ?_⟩
        · unfold seqIndex?
          rw [List.map_cons, List.length_cons]
          simp
        · have nal : a ≠ l := ne_of h1 h7 (by intro z; cases z)
          have e4 : ExD a l H (upd H3 l (.lst (((x0 :: lr).map V.int).eraseIdx 0))) := (ExD.of e13).trans fun b o hb n1 n2 => by rw [upd_ne n2]; exact hb
          refine stored _ (fun H4 d e => fin H4 tNext d e) x0 _ (h10 x0 List.mem_cons_self) ⟨kvs, lr, cs, rest, turn, by rw [upd_ne nal]; exact e13 _ _ h1, h2, h3, h4, h5, h6, upd_same, by rw [upd_ne (Ne.symm h9)]; exact e13 _ _ h8, h9, fun x hx => h10 x (List.mem_cons_of_mem _ hx), h11, h12, h13, by omega, ?_, h16⟩ e4
          rw [List.length_cons] at h15
          omega
    · rw [decide_eq_false (show ¬ V.int rest = V.int 0 from fun e => hz (V.int.inj e)), if_neg Bool.false_ne_true]
      exact fin H1 tNext ((hD.mono e1).up (by omega)) (ExD.of e1)
end
end NQ
namespace NQ
open PySem PySem.Spec PyProof.Rows L2 Evl
/-! ### pick, shuffled, names -/
/-- a thing that stands: a list or a tuple that is not the draws' own -/
def Stood (a l : Addr) (p : Addr) (xs : List V) (H : Hp) : Prop := (H p = some (.lst xs) ∨ H p = some (.tup xs)) ∧ p ≠ a ∧ p ≠ l
theorem Stood.exD {a l p : Addr} {xs : List V} {H H' : Hp} (h : Stood a l p xs H) (e : ExD a l H H') : Stood a l p xs H' := by
  obtain ⟨h1, h2, h3⟩ := h
  rcases h1 with h1 | h1
  · exact ⟨.inl (e p _ h1 h2 h3), h2, h3⟩
  · exact ⟨.inr (e p _ h1 h2 h3), h2, h3⟩
theorem Stood.seq {K : PySem.W.Frag} {a l p : Addr} {xs : List V} {H : Hp} (h : Stood a l p xs H) : SqL K H p xs ∨ SqT K H p xs := by
  obtain ⟨h1 | h1, _⟩ := h
  · exact .inl (sq_of h1)
  · exact .inr (st_of h1)
theorem at_nat {xs : List Nat} {i : Nat} {c : Nat} (h : xs[i]? = some c) : atI xs (i : Int) = some c := by
  unfold atI
  rw [ixN_nat (List.getElem?_eq_some_iff.mp h).1]
  exact h
def rLenA (K : PySem.W.Frag) : List V → Hp → VK → Prop := fun xs H Q => rLenS K xs H Q ∨ ∃ z : Str, xs = [.str z] ∧ z.length ≤ sizeLine ∧ Q (.int z.length) H
theorem crLenA {X : Cx} {K : PySem.W.Frag} (e : X.K = K) : CallR X (.builtin "len") (rLenA K) := by
  subst e
  intro pins s σ H xs us Q I r h
  rcases h with h | h
  · exact call_len_seq pins s σ H xs us Q I r h
  · exact call_len_str pins s σ H xs us Q I r h
/-- what is picked of: a list, a tuple, a text -/
def PickOf (a l : Addr) (v : V) (xs : List V) (H : Hp) : Prop := (∃ p, v = .ref p ∧ Stood a l p xs H) ∨ ∃ z : Str, v = .str z ∧ xs = z.cps.toList.map fun c => V.str ⟨#[c]⟩
def spPick : Sp := fun vs H Q _ => ∃ (a l c : Addr) (N : Nat) (v : V) (xs : List V), vs = [.ref a, v] ∧ Dr a l c N H ∧ N < 1000000 ∧ PickOf a l v xs H ∧ 0 < xs.length ∧ xs.length < 100000 ∧ ∀ x H', x ∈ xs → Dr a l c (N + 1) H' → ExD a l H H' → Q x H'
def spShuf : Sp := fun vs H Q _ => ∃ (a l c : Addr) (N : Nat) (p : Addr) (zs : List Str), vs = [.ref a, .ref p] ∧ Dr a l c N H ∧ N + 1000 < 1000000 ∧ Stood a l p (zs.map V.str) H ∧ zs.length ≤ 100 ∧ (∀ z ∈ zs, PyData.strOk z = true) ∧
  ∀ (q : Addr) (ys : List Str) (H' : Hp), ys.Perm zs → Dr a l c (N + zs.length) H' → ExD a l H H' → H q = none → H' q = some (.lst (ys.map V.str)) → Q (.ref q) H'
section
variable {K : PySem.W.Frag} {σ : L2.St} {H H' : Hp} {ta tb te tx td ty : TE} {t u : TT} {x y z v : V} {tr : TA} {D : Ends} {tz : TS}
/-- a draw -/
theorem do_take {a l c : Addr} {N : Nat} {size : Int} {E : XK} {tu : TA} (h : EvA tu σ H [.ref a, .int size]) (hD : Dr a l c N H) (hN : N < 1000000) (h0 : 0 < size) (h1 : size < 100000) {Q : VK} {H1 : Hp} (e : Ex H H1)
    (q : ∀ v H2, 0 ≤ v → v < size → Dr a l c (N + 1) H2 → ExD a l H1 H2 → Q (.int v) H2) : tCall spTake [] E tu σ H1 Q := by
  refine h H1 e _ fun H2 e2 => ?_
  exact ⟨a, l, c, N, size, rfl, hD.mono (e.trans e2), hN, h0, h1, fun v H3 v0 v1 d3 e3 => q v H3 v0 v1 d3 ((ExD.of e2).trans e3)⟩
end
section
variable {P : Program} {w : World} {K : PySem.W.Frag} {mg : Str → Option Value} {base : Heap} {f : Addr} {fd : FuncData} {aK : Addr} {tk : Tk}
theorem ok__law_pick (F : Fun K "_law_pick" "_law_pick" s__law_pick f fd) (T : Tx K mg aK tk) (c__law_take : Cal P w K mg base CX0 2 "_law_take" ["draw", "many"] spTake) : FnOk P w K mg base CX0 3 f fd ["draw", "some"] spPick := by
  refine F.ok sc__law_pick (fun vs H Q E h => ?_) (fun cdv A outer s H vs Q E hr h => ?_)
  · obtain ⟨a, l, c, N, p, xs, rfl, _⟩ := h
    rfl
  · obtain ⟨a, l, c, N, v0, xs, rfl, hD, hN, hp, x0, x1, q⟩ := h
    have hu := hu_of hr
    refine ⟨_, (pss_one (ps_ret (pe_ix (ixS (K := K) rfl) (pv 1) (pe_cl c__law_take hr (by decide) (by rfl) (pa_cons (pv 0) (pa_cons (pe_callB (crLenA (K := K) rfl) (by rfl) T.len (by decide +kernel) (pa_cons (pv 1) pa_nil)) pa_nil))) (fun _ _ => rfl)))), ?_⟩
    refine ⟨v0, rfl, ?_⟩
    have hlen : Ev (tCB (rLenA K) (tCons (tVar 1) tNil)) [some (.ref a), some v0] H (.int (xs.length : Int)) := fun H1 e1 Q q => by
      refine ⟨v0, rfl, ?_⟩
      rcases hp with ⟨p, rfl, hp⟩ | ⟨z, rfl, rfl⟩
      · exact Or.inl ⟨p, xs, rfl, (hp.exD (ExD.of e1)).seq, q H1 (Ex.refl _)⟩
      · refine Or.inr ⟨z, rfl, sz_of (by rw [List.length_map] at x1; exact Nat.le_of_lt x1), ?_⟩
        rw [List.length_map] at q
        exact q H1 (Ex.refl _)
    refine do_take (H := H) (size := (xs.length : Int)) (ea_cons (ev_var rfl) (ea_cons hlen ea_nil)) hD hN (by omega) (by omega) (Ex.refl H) fun v H2 v0 v1 d2 e2 => ?_
    obtain ⟨i, rfl⟩ := Int.eq_ofNat_of_zero_le v0
    obtain ⟨x, hx, hat⟩ := atI_mem (xs := xs) (i := i) (by omega)
    rcases hp with ⟨p, rfl, hp⟩ | ⟨z, rfl, rfl⟩
    · have hs := hp.exD e2
      rcases hs.1 with h1 | h1
      · exact Or.inl ⟨p, xs, _, x, rfl, rfl, sq_of h1, hat, q x H2 hx d2 e2⟩
      · exact Or.inr (Or.inl ⟨p, xs, _, x, rfl, rfl, st_of h1, hat, q x H2 hx d2 e2⟩)
    · rw [List.length_map] at x1 v1
      have hi : i < z.cps.toList.length := by omega
      have hx2 : x = V.str ⟨#[z.cps.toList[i]]⟩ := by
        have h3 := at_of (xs := z.cps.toList.map fun c => V.str ⟨#[c]⟩) (j := i) rfl (by rw [List.getElem?_map, List.getElem?_eq_getElem hi]; rfl)
        rw [hat] at h3
        exact Option.some.inj h3
      refine Or.inr (Or.inr ⟨z, _, z.cps.toList[i], rfl, rfl, sz_of (Nat.le_of_lt x1), at_nat (List.getElem?_eq_getElem hi), ?_⟩)
      rw [← hx2]
      exact q x H2 hx d2 e2
theorem ok__law_shuffled (F : Fun K "_law_shuffled" "_law_shuffled" s__law_shuffled f fd) (T : Tx K mg aK tk) (c__law_take : Cal P w K mg base CX0 2 "_law_take" ["draw", "many"] spTake) : FnOk P w K mg base CX0 3 f fd ["draw", "some"] spShuf := by
  refine F.ok sc__law_shuffled (fun vs H Q E h => ?_) (fun cdv A outer s H vs Q E hr h => ?_)
  · obtain ⟨a, l, c, N, p, zs, rfl, _⟩ := h
    rfl
  · obtain ⟨a, l, c, N, p, zs, rfl, hD, hN, hp, x1, hok, q⟩ := h
    have hu := hu_of hr
    refine ⟨_, (pss_cons (ps_par (i := 2) (j := 3) (by rfl) sc__law_shuffled.nd rfl rfl (by decide) rfl rfl (pa_cons (pe_callTy (crList (K := K) rfl) (by rfl) T.list (by decide +kernel) (pa_cons (pv 1) pa_nil)) (pa_cons (pe_lst pa_nil) pa_nil)) (by rfl))
      (pss_cons (ps_while PassesOwn.never (pt_cmpR (opNeD (K := K) rfl hr.units) (pv 2) (pe_lst pa_nil) (nomark _))
        (pss_one (ps_expr (pe_bm PySem.F.plainAttrs_list PySem.F.slot_list_append PySem.F.type_list_append mt_append (pv 3) (pa_cons (pe_bm PySem.F.plainAttrs_list PySem.F.slot_list_pop PySem.F.type_list_pop mt_popAt (pv 2) (pa_cons (pe_cl c__law_take hr (by decide) (by rfl) (pa_cons (pv 0) (pa_cons (pe_callB (crLen (K := K) rfl) (by rfl) T.len (by decide +kernel) (pa_cons (pv 2) pa_nil)) pa_nil))) pa_nil)) pa_nil)))))
      (pss_one (ps_ret (pv 3))))), ?_⟩
    -- left, found = list(some), []
    refine ⟨.ref p, rfl, p, _, rfl, hp.seq, fun lf hlf => ?_⟩
    refine ⟨Nat.zero_le _, fun fo hfo => ?_⟩
    have e1 : Ex H (upd H lf (.lst (zs.map V.str))) := Ex.new hlf
    have e2 := e1.trans (Ex.new (o := .lst []) hfo)
    have nlf : lf ≠ fo := ne_of_none upd_same hfo
    have nfo : H fo = none := fresh_back e1 hfo
    obtain ⟨kvs, lg, cs, rest, turn, k1, k2, k3, k4, k5, k6, k7, k8⟩ := hD.ex
    have n1 : a ≠ lf := ne_of_none k1 hlf
    have n2 : l ≠ lf := ne_of_none k7 hlf
    have n3 : a ≠ fo := ne_of_none k1 nfo
    have n4 : l ≠ fo := ne_of_none k7 nfo
    refine ⟨.ref lf, .ref fo, rfl, ?_⟩
    have d2 := hD.mono e2
    have l2 : (upd (upd H lf (.lst (zs.map V.str))) fo (.lst [])) lf = some (.lst (zs.map V.str)) := by
      rw [upd_ne nlf]
      exact upd_same
    have f2 : (upd (upd H lf (.lst (zs.map V.str))) fo (.lst [])) fo = some (.lst []) := upd_same
    generalize (upd (upd H lf (.lst (zs.map V.str))) fo (.lst [])) = H2 at e2 d2 l2 f2
    -- while
    refine ⟨fun m σ' H' => ∃ ls fs : List Str, σ' = [some (.ref a), some (.ref p), some (.ref lf), some (.ref fo)] ∧ ls.length = m ∧ (fs ++ ls).Perm zs ∧ H' lf = some (.lst (ls.map V.str)) ∧ H' fo = some (.lst (fs.map V.str)) ∧ Dr a l c (N + fs.length) H' ∧ ExD a l H H', ⟨zs.length, zs, [], rfl, rfl, List.Perm.refl _, l2, f2, d2, ExD.of e2⟩, fun m σ' H' hW => ?_⟩
    obtain ⟨ls, fs, rfl, hm, hperm, hl, hf, hd, he⟩ := hW
    have hlen := hperm.length_eq
    rw [List.length_append] at hlen
    have lok : ∀ z ∈ ls, PyData.strOk z = true := fun z hz => hok z (hperm.mem_iff.mp (List.mem_append_right _ hz))
    refine (et_test (ev_neNil (K := K) (ds := ls.map PyData.str) (ev_var rfl) hl (dp_strs _ ls) (fun _ _ => dp_strs _ ls) (shaped_strs lok))) H' (Ex.refl _) _ fun H3 e3 => ?_
    cases ls with
    | nil =>
      rw [show (!(([] : List Str).map V.str).isEmpty) = false from rfl, if_neg Bool.false_ne_true]
      rw [List.append_nil] at hperm
      refine s_ret (v := .ref fo) (ev_var rfl) fun H4 e4 => ?_
      have e34 := e3.trans e4
      exact q fo fs H4 hperm ((hd.mono e34).up (by rw [hperm.length_eq]; exact Nat.le_refl _)) (he.trans (ExD.of e34)) nfo (e34 _ _ hf)
    | cons z0 lr =>
      rw [show (!((z0 :: lr).map V.str).isEmpty) = true from rfl, if_pos rfl]
      refine ⟨fun σ4 H4 => ∃ m', m' < m ∧ ∃ ls fs : List Str, σ4 = [some (.ref a), some (.ref p), some (.ref lf), some (.ref fo)] ∧ ls.length = m' ∧ (fs ++ ls).Perm zs ∧ H4 lf = some (.lst (ls.map V.str)) ∧ H4 fo = some (.lst (fs.map V.str)) ∧ Dr a l c (N + fs.length) H4 ∧ ExD a l H H4, fun σ4 H4 h4 => h4, ?_⟩
      -- found.append(left.pop(draw))
      have hl3 := e3 _ _ hl
      have hf3 := e3 _ _ hf
      refine ⟨.ref fo, rfl, Or.inl ⟨rfl, _, sq_of hf3⟩, .ref lf, rfl, Or.inl ⟨rfl, _, sq_of hl3⟩, ?_⟩
      rw [List.length_cons] at hlen
      refine do_take (H := H3) (size := (((z0 :: lr).map V.str).length : Int)) (ea_cons (ev_var rfl) (ea_cons (ev_len (ev_var rfl) (sq_of hl3)) ea_nil)) (hd.mono e3) (by omega) (by rw [List.length_map, List.length_cons]; omega) (by rw [List.length_map, List.length_cons]; omega) (Ex.refl _) fun v H5 v0 v1 d5 e5 => ?_
      obtain ⟨i, rfl⟩ := Int.eq_ofNat_of_zero_le v0
      rw [List.length_map] at v1
      have hi : i < (z0 :: lr).length := by omega
      have hl5 : H5 lf = some (.lst ((z0 :: lr).map V.str)) := e5 _ _ hl3 (Ne.symm n1) (Ne.symm n2)
      have hf5 : H5 fo = some (.lst (fs.map V.str)) := e5 _ _ hf3 (Ne.symm n3) (Ne.symm n4)
      have hi2 : i < 100 := by
        rw [List.length_cons] at hi
        omega
      refine ⟨lf, _, (i : Int), i, .str (z0 :: lr)[i], rfl, rfl, hl5, by omega, by omega, ?_, ?_, ?_⟩
      · rw [List.length_map]
        exact seqIx hi
      · rw [List.getElem?_map, List.getElem?_eq_getElem hi]
        rfl
      · have hf6 : (upd H5 lf (.lst (((z0 :: lr).map V.str).eraseIdx i))) fo = some (.lst (fs.map V.str)) := by
          rw [upd_ne (Ne.symm nlf)]
          exact hf5
        refine ⟨fo, _, _, rfl, rfl, hf6, ?_, ?_⟩
        · rw [List.length_map]
          exact small1000 (by omega)
        · have hle : ((z0 :: lr).eraseIdx i).length = lr.length := by
            rw [List.length_eraseIdx_of_lt hi, List.length_cons]
            omega
          refine ⟨lr.length, by rw [← hm, List.length_cons]; omega, (z0 :: lr).eraseIdx i, fs ++ [(z0 :: lr)[i]], rfl, hle, ?_, ?_, ?_, ?_, ?_⟩
          · refine List.Perm.trans ?_ hperm
            rw [List.append_assoc]
            refine List.Perm.append_left fs ?_
            exact erase_perm _ hi
          · rw [upd_ne nlf, upd_same]
            congr 2
            exact map_erase _ _ _
          · rw [upd_same, List.map_append]
            rfl
          · have dd : Dr a l c (N + fs.length + 1) (upd (upd H5 lf (.lst (((z0 :: lr).map V.str).eraseIdx i))) fo (.lst (fs.map V.str ++ [.str (z0 :: lr)[i]]))) := by
              obtain ⟨kvs5, lg5, cs5, rest5, turn5, j1, j2, j3, j4, j5, j6, j7, j8, j9⟩ := d5.ex
              obtain ⟨_, _, _, _, _, _, _, _, _, _, _, _, c8, _⟩ := hD.ex
              have n5 : c ≠ lf := ne_of_none k8.1 hlf
              have n6 : c ≠ fo := ne_of_none k8.1 nfo
              exact ⟨kvs5, lg5, cs5, rest5, turn5, by rw [upd_ne n3, upd_ne n1]; exact j1, j2, j3, j4, j5, j6, by rw [upd_ne n4, upd_ne n2]; exact j7, by rw [upd_ne n6, upd_ne n5]; exact j8, j9⟩
            rw [List.length_append]
            exact dd
          · intro b o hb nb1 nb2
            rw [upd_ne (ne_of_none hb nfo), upd_ne (ne_of_none hb hlf)]
            exact ((he.trans (ExD.of e3)).trans e5) b o hb nb1 nb2
end
end NQ
namespace NQ
open PySem PySem.Spec PyProof.Rows L2 Evl
def spBegun (K : PySem.W.Frag) : Sp := fun vs H Q _ => ∃ (s : Addr) (ns : List Int), vs = [.ref s] ∧ SqL K H s (ns.map V.int) ∧ ns.length ≤ 63 ∧ ∀ (a l c : Addr) (H' : Hp), Ex H H' → Dr a l c 0 H' → H a = none → H l = none → Q (.ref a) H'
section
variable {P : Program} {w : World} {K : PySem.W.Frag} {mg : Str → Option Value} {base : Heap} {f : Addr} {fd : FuncData} {aK : Addr} {tk : Tk}
theorem ok__law_begun (F : Fun K "_law_begun" "_law_begun" s__law_begun f fd) (T : Tx K mg aK tk) : FnOk P w K mg base CX0 1 f fd ["script"] (spBegun K) := by
  refine F.ok sc__law_begun (fun vs H Q E h => ?_) (fun cdv A outer s H vs Q E hr h => ?_)
  · obtain ⟨s0, ns, rfl, _⟩ := h
    rfl
  · obtain ⟨s0, ns, rfl, hS, hlen, q⟩ := h
    have hu := hu_of hr
    refine ⟨_, (pss_cons (ps_setLc (i := 1) (own := [("grain", 2)]) rfl sc__law_begun.nd rfl rfl (sw_true rfl rfl rfl (by decide +kernel)) (piLst (K := K) rfl (pv 0)) (blkOk_by (own := [("grain", 2)]) (N := N__law_begun) (sc := defScope s__law_begun) (by decide +kernel)) (fun _ _ _ _ _ => (pg_name (i := 2) sc__law_begun.nd rfl (Or.inl rfl))) (fun _ _ _ _ _ => pts_one (pt_cmpR op_ge (pe_callB call_abs (by rfl) T.abs (by decide +kernel) (pa_cons (pv 2) pa_nil)) (pe_op op_pow pe_int pe_int) (nomark _))) (fun _ _ _ _ _ => (pe_op op_sub (pe_callB call_abs (by rfl) T.abs (by decide +kernel) (pa_cons (pv 2) pa_nil)) (pe_op op_pow pe_int pe_int))))
      (pss_one (ps_ret (pe_disp (pps_cons pe_str (pv 1) (pps_cons pe_str (pe_lc (own := [("grain", 2)]) rfl sc__law_begun.nd (piLst (K := K) rfl (pv 0)) (blkOk_by (own := [("grain", 2)]) (N := N__law_begun) (sc := defScope s__law_begun) (by decide +kernel)) (fun _ _ _ _ _ => (pg_name (i := 2) sc__law_begun.nd rfl (Or.inl rfl))) (fun _ _ _ _ _ => pts_nil) (fun _ _ _ _ _ => (pe_op op_mod (pe_callTy call_int1 (by rfl) T.int (by decide +kernel) (pa_cons (pe_callB call_abs (by rfl) T.abs (by decide +kernel) (pa_cons (pv 2) pa_nil)) pa_nil)) pe_int))) (pps_cons pe_str pe_int (pps_cons pe_str pe_int pps_nil)))) (by rfl) (by rfl) (fun z => by cases z) (by decide))))), ?_⟩
    have h18 : Ev (tOp (rI CPow fun i j => .int (i ^ j.toNat)) (tC (.int 10)) (tC (.int 18))) = Ev (tOp (rI CPow fun i j => .int (i ^ j.toNat)) (tC (.int 10)) (tC (.int 18))) := rfl
    have p18 : ∀ (σ : L2.St) (H : Hp), Ev (tOp (rI CPow fun i j => .int (i ^ j.toNat)) (tC (.int 10)) (tC (.int 18))) σ H (.int (10 ^ (18 : Int).toNat)) := fun σ H => ev_pow ev_c ev_c ⟨by decide, by decide, by decide⟩
    generalize (10 ^ (18 : Int).toNat : Int) = big at p18
    have absI : ∀ i : Int, (if i < 0 then -i else i) = (i.natAbs : Int) := fun i => by split <;> omega
    -- large
    have key := el_lcL (K := K) (te := tOp (rI0 fun i j => .int (i - j)) (tCB (fun xs H Q => ∃ i, xs = [.int i] ∧ Q (.int (if i < 0 then -i else i)) H) (tCons (tVar 2) tNil)) (tOp (rI CPow fun i j => .int (i ^ j.toNat)) (tC (.int 10)) (tC (.int 18))))
      (t := tTest (tOp (rI0 fun i j => .bl (decide (j ≤ i))) (tCB (fun xs H Q => ∃ i, xs = [.int i] ∧ Q (.int (if i < 0 then -i else i)) H) (tCons (tVar 2) tNil)) (tOp (rI CPow fun i j => .int (i ^ j.toNat)) (tC (.int 10)) (tC (.int 18)))))
      (σ := [some (.ref s0), none, none]) (H := H) (j := 2) (vs := [2]) (tl := tVar 0) (xs := ns.map V.int) (fun k => decide (big ≤ ((ns.getD k 0).natAbs : Int))) (fun k => .int (((ns.getD k 0).natAbs : Int) - big)) (ev_var rfl) hS (by rw [List.length_map]; omega) (fun _ => rfl)
      (fun k x H5 e5 hx => by
        obtain ⟨d, hd, rfl⟩ := map_at hx
        rw [show ns.getD k 0 = d by rw [List.getD_eq_getElem?_getD, hd]; rfl, ← absI d]
        exact et_test (ev_geV (ev_abs (ev_var rfl)) (p18 _ _)))
      (fun k x H5 e5 hx _ => by
        obtain ⟨d, hd, rfl⟩ := map_at hx
        rw [show ns.getD k 0 = d by rw [List.getD_eq_getElem?_getD, hd]; rfl, ← absI d]
        exact ev_sub (ev_abs (ev_var rfl)) (p18 _ _))
    rw [List.length_map, given_filter (0 : Int) (fun d => decide (big ≤ (d.natAbs : Int))) (fun d => V.int ((d.natAbs : Int) - big))] at key
    refine q_asgL key fun l H1 hl0 e1 hl => ?_
    have el : (ns.filter fun d => decide (big ≤ (d.natAbs : Int))).map (fun d => V.int ((d.natAbs : Int) - big)) = ((ns.filter fun d => decide (big ≤ (d.natAbs : Int))).map fun d => (d.natAbs : Int) - big).map V.int := by
      rw [List.map_map]
      rfl
    rw [el] at hl
    have hl2 : ((ns.filter fun d => decide (big ≤ (d.natAbs : Int))).map fun d => (d.natAbs : Int) - big).length ≤ 63 := by
      rw [List.length_map]
      exact Nat.le_trans (List.length_filter_le _ _) hlen
    have hl3 : ∀ x ∈ ((ns.filter fun d => decide (big ≤ (d.natAbs : Int))).map fun d => (d.natAbs : Int) - big), 0 ≤ x := fun x hx => by
      obtain ⟨d, hd, rfl⟩ := List.mem_map.mp hx
      have := of_decide_eq_true (List.mem_filter.mp hd).2
      omega
    generalize ((ns.filter fun d => decide (big ≤ (d.natAbs : Int))).map fun d => (d.natAbs : Int) - big) = lg at hl hl2 hl3
    -- cells
    have key2 : ∀ H2, Ex H1 H2 → EvL (tLc (iList K (tVar 0)) (gName 2) tYes (tOp (rI (fun _ j => 0 < j) fun i j => .int (i % j)) (tCB (fun xs H Q => (∃ i, xs = [.int i] ∧ Q (.int i) H) ∨ ∃ k, xs = [.bl k] ∧ Q (.int (if k then 1 else 0)) H) (tCons (tCB (fun xs H Q => ∃ i, xs = [.int i] ∧ Q (.int (if i < 0 then -i else i)) H) (tCons (tVar 2) tNil)) tNil)) (tC (.int 2147483629))) [2])
        [some (.ref s0), some (.ref l), none] H2 ((ns.map fun d => (d.natAbs : Int) % 2147483629).map V.int) := fun H2 e2 => by
      have z := el_lcL (K := K) (te := tOp (rI (fun _ j => 0 < j) fun i j => .int (i % j)) (tCB (fun xs H Q => (∃ i, xs = [.int i] ∧ Q (.int i) H) ∨ ∃ k, xs = [.bl k] ∧ Q (.int (if k then 1 else 0)) H) (tCons (tCB (fun xs H Q => ∃ i, xs = [.int i] ∧ Q (.int (if i < 0 then -i else i)) H) (tCons (tVar 2) tNil)) tNil)) (tC (.int 2147483629))) (t := tYes)
        (σ := [some (.ref s0), some (.ref l), none]) (H := H2) (j := 2) (vs := [2]) (tl := tVar 0) (xs := ns.map V.int) (fun _ => true) (fun k => .int (((ns.getD k 0).natAbs : Int) % 2147483629)) (ev_var rfl) (ex_l (e1.trans e2) hS) (by rw [List.length_map]; omega) (fun _ => rfl)
        (fun _ _ _ _ _ => et_yes)
        (fun k x H5 e5 hx _ => by
          obtain ⟨d, hd, rfl⟩ := map_at hx
          rw [show ns.getD k 0 = d by rw [List.getD_eq_getElem?_getD, hd]; rfl, ← absI d]
          exact ev_mod (ev_int (ev_abs (ev_var rfl))) ev_c (by decide))
      rw [List.length_map, given_map (0 : Int) (fun d => V.int ((d.natAbs : Int) % 2147483629)) ns] at z
      rw [List.map_map]
      exact z
    -- the dict
    intro a ha
    refine ⟨_, rfl, ?_⟩
    dsimp only [tPairs, tC]
    refine key2 _ (Ex.new ha) _ (Ex.refl _) _ fun c H2 hc0 e2 hc => ?_
    have ha2 : H2 a = some (.dK []) := e2 _ _ upd_same
    have x12 : Ex H1 H2 := (Ex.new ha).trans e2
    refine ⟨ha2, [(kWide, .ref l), (kCells, .ref c), (kRest, .int 0), (kTurn, .int 0)], rfl, (by simp only [List.length_cons, List.length_nil]; decide), ?_⟩
    have nd : ([(kWide, V.ref l), (kCells, V.ref c), (kRest, V.int 0), (kTurn, V.int 0)].map (·.1)).Nodup := (by decide +kernel : [kWide, kCells, kRest, kTurn].Nodup)
    have nal : l ≠ a := ne_of_none hl ha
    have nac : c ≠ a := fun e => by
      rw [e, upd_same] at hc0
      cases hc0
    have hl4 : H2 l = some (.lst (lg.map V.int)) := x12 _ _ hl
    have nlc : l ≠ c := fun e => by
      rw [← e, upd_ne nal, hl] at hc0
      cases hc0
    have x13 : Ex H1 (upd H2 a (.dK (mergeK [] [(kWide, V.ref l), (kCells, V.ref c), (kRest, V.int 0), (kTurn, V.int 0)]))) := Ex.mut x12 ha
    refine q a l c _ (e1.trans x13) ⟨_, lg, ns.map fun d => (d.natAbs : Int) % 2147483629, 0, 0, upd_same, ?_, valV_merge_get (i := 0) nd rfl, valV_merge_get (i := 1) nd rfl, valV_merge_get (i := 2) nd rfl, valV_merge_get (i := 3) nd rfl,
      by rw [upd_ne nal]; exact hl4, by rw [upd_ne nac]; exact hc, nlc, hl3, fun x hx => ?_, Int.le_refl 0, Int.le_refl 0, Int.le_refl 0, by omega, by rw [List.length_map]; omega⟩ (fresh_back e1 ha) hl0
    · exact Nat.le_trans (length_mergeK _ []) (by simp only [List.length_cons, List.length_nil]; decide)
    · obtain ⟨d, _, rfl⟩ := List.mem_map.mp hx
      exact Int.emod_nonneg _ (by decide)
end
end NQ
namespace NQ
open PySem PySem.Spec PyProof.Rows L2 Evl NM
/-! ### texts as lists of codes -/
abbrev sL (l : List Nat) : Str := ⟨l.toArray⟩
abbrev chrV (c : Nat) : V := .str ⟨#[c]⟩
theorem sL_app (x y : List Nat) : sL x ++ sL y = sL (x ++ y) := by
  show (⟨x.toArray ++ y.toArray⟩ : Str) = _
  rw [List.append_toArray]
theorem sL_len (x : List Nat) : (sL x).length = x.length := rfl
theorem sL_inj {x y : List Nat} : sL x = sL y ↔ x = y := ⟨fun h => by
  have : (sL x).cps.toList = (sL y).cps.toList := by rw [h]
  exact this, fun h => by rw [h]⟩
theorem join_chr (ys : List Nat) : Txt.join (sL []) (ys.map fun c => (⟨#[c]⟩ : Str)) = sL ys := by
  rw [TL.join_eq]
  induction ys with
  | nil => rfl
  | cons x r ih =>
    cases r with
    | nil => rfl
    | cons y s =>
      show (⟨#[x]⟩ : Str) ++ sL [] ++ Str.join (sL []) ((y :: s).map fun c => (⟨#[c]⟩ : Str)) = _
      rw [ih]
      show sL [x] ++ sL [] ++ sL (y :: s) = _
      rw [sL_app, sL_app]
      rfl
theorem cut_back (xs : List V) (n : Nat) : cutV xs (some (n : Int)) none = xs.drop n := by
  unfold cutV
  rw [HT.sIx_none, show HT.sIx xs.length 0 (some (n : Int)) = min n xs.length from HT.sIx_nat _ _ n]
  by_cases h : n ≤ xs.length
  · rw [Nat.min_eq_left h]
    refine List.take_of_length_le ?_
    rw [List.length_drop]
    exact Nat.le_refl _
  · rw [Nat.min_eq_right (by omega), Nat.sub_self, List.take_zero, List.drop_of_length_le (by omega)]
theorem cutS_mid (z : List Nat) {n : Nat} (h : n ≤ z.length) : cutS (sL z) (some (n : Int)) (some ((n : Int) + 1)) = sL ((z.drop n).take 1) := by
  unfold cutS
  rw [sL_len, HT.sIx_nat, show ((n : Int) + 1) = ((n + 1 : Nat) : Int) by omega, HT.sIx_nat, Nat.min_eq_left h]
  show sL ((z.drop n).take (min (n + 1) z.length - n)) = _
  congr 1
  rw [List.take_eq_take_iff, List.length_drop]
  omega
theorem cutS_front (z : List Nat) {n : Nat} (h : n ≤ z.length) : cutS (sL z) none (some (n : Int)) = sL (z.take n) := by
  unfold cutS
  rw [sL_len, HT.sIx_nat, HT.sIx_none, Nat.min_eq_left h]
  rfl
theorem cutS_back (z : List Nat) {n : Nat} (h : n ≤ z.length) : cutS (sL z) (some (n : Int)) none = sL (z.drop n) := by
  unfold cutS
  rw [sL_len, HT.sIx_nat, HT.sIx_none, Nat.min_eq_left h]
  show sL ((z.drop n).take (z.length - n)) = _
  rw [List.take_of_length_le (by rw [List.length_drop]; exact Nat.le_refl _)]
abbrev rAddT : R2 := fun x y H Q => ∃ i j, x = .str i ∧ y = .str j ∧ i.length + j.length ≤ sizeLine ∧ Q (.str (i ++ j)) H
section
variable {K : PySem.W.Frag} {σ : L2.St} {H H' : Hp} {ta tb te tx td ty : TE} {t u : TT} {x y z v : V} {tr : TA} {D : Ends} {tz : TS} {tl th : TO}
theorem ev_addS {i j : List Nat} (ha : Ev ta σ H (.str (sL i))) (hb : Ev tb σ H (.str (sL j))) (hl : i.length + j.length ≤ 100000) : Ev (tOp rAddT ta tb) σ H (.str (sL (i ++ j))) :=
  ev_op ha hb fun H1 e Q q => ⟨sL i, sL j, rfl, rfl, sz_of hl, by rw [sL_app]; exact q H1 (Ex.refl H1)⟩
theorem ev_slS {w : List Nat} {lo hi : Option Int} (h : Ev te σ H (.str (sL w))) (h1 : EvO tl σ H lo) (h2 : EvO th σ H hi) (hl : w.length ≤ 100000) : Ev (tSl rSlS te tl th) σ H (.str (cutS (sL w) lo hi)) := fun H1 e Q q =>
  h H1 e _ fun H2 e2 => h1 H2 (e.trans e2) _ fun H3 e3 => h2 H3 ((e.trans e2).trans e3) _ fun H4 e4 => ⟨sL w, rfl, sz_of hl, q H4 ((e2.trans e3).trans e4)⟩
theorem ev_join {ys : List Nat} (h : EvL te σ H (ys.map chrV)) (hl : ys.length ≤ 1000) : Ev (tM1 (rJoinS K) (tC (.str "")) te) σ H (.str (sL ys)) := fun H1 e Q q =>
  ⟨⟨_, rfl⟩, h H1 e _ fun p H2 _ e2 hp => ⟨sL [], p, ys.map fun c => (⟨#[c]⟩ : Str), rfl, rfl, Or.inl (sq_of (by rw [List.map_map]; exact hp)), (by
    have h1 : ∀ zs : List Nat, ((zs.map fun c => (⟨#[c]⟩ : Str)).map (·.length)).sum = zs.length := fun zs => by
      induction zs with
      | nil => rfl
      | cons z r ih =>
        rw [List.map_cons, List.map_cons, List.sum_cons, ih, List.length_cons]
        show 1 + r.length = _
        omega
    rw [h1, sL_len]
    simp only [List.length_nil, Nat.mul_zero]
    omega), by rw [join_chr]; exact q H2 e2⟩⟩
/-! ### draws: what is new is not the draws' own -/
theorem Dr.fresh {a l c : Addr} {N : Nat} (h : Dr a l c N H) {p : Addr} (hp : H p = none) : p ≠ a ∧ p ≠ l ∧ p ≠ c := by
  obtain ⟨kvs, lg, cs, rest, turn, h1, h2, h3, h4, h5, h6, h7, h8, _⟩ := h.ex
  exact ⟨fun e => (by rw [e, h1] at hp; cases hp), fun e => (by rw [e, h7] at hp; cases hp), fun e => (by rw [e, h8] at hp; cases hp)⟩
theorem Dr.upd {a l c : Addr} {N : Nat} (h : Dr a l c N H) {p : Addr} {o : HO} (n : p ≠ a ∧ p ≠ l ∧ p ≠ c) : Dr a l c N (upd H p o) := by
  obtain ⟨kvs, lg, cs, rest, turn, h1, h2, h3, h4, h5, h6, h7, h8, h9⟩ := h.ex
  exact ⟨kvs, lg, cs, rest, turn, by rw [upd_ne n.1.symm]; exact h1, h2, h3, h4, h5, h6, by rw [upd_ne n.2.1.symm]; exact h7, by rw [upd_ne n.2.2.symm]; exact h8, h9⟩
theorem ExD.mut {a l p : Addr} {o : HO} (e : ExD a l H H') (hp : H p = none) : ExD a l H (L2.upd H' p o) := fun b u hb n1 n2 => by
  rw [upd_ne (ne_of_none hb hp)]
  exact e b u hb n1 n2
theorem ExD.back {a l c p : Addr} {N : Nat} (e : ExD a l H H') (d : Dr a l c N H') (hp : H' p = none) : H p = none := by
  cases h : H p with
  | none => rfl
  | some o =>
    obtain ⟨n1, n2, _⟩ := d.fresh hp
    rw [e p o h n1 n2] at hp
    cases hp
/-- [e for j in range(n)] where e draws -/
theorem lc_draw {a l c : Addr} {N n m j : Nat} {vs : List Nat} (P : Nat → V → Prop) (hD : Dr a l c N H) (hn : n ≤ 40000) (hw : ∀ x, wipe ((wipe σ vs).set j (some x)) vs = wipe σ vs)
    (he : ∀ (i : Nat) H1, i < n → ExD a l H H1 → Dr a l c (N + i * m) H1 → ∀ Q : VK, (∀ v H2, ExD a l H1 H2 → Dr a l c (N + i * m + m) H2 → P i v → Q v H2) → te ((wipe σ vs).set j (some (.int ((0 : Int) + (i : Int))))) H1 Q)
    {Q : Addr → Hp → Prop} (q : ∀ p ys H2, H p = none → ExD a l H H2 → Dr a l c (N + n * m) H2 → H2 p = some (.lst ys) → ys.length = n → (∀ i v, ys[i]? = some v → P i v) → Q p H2) :
    ∀ Dl, H Dl = none → ∃ W : Nat → Nat → Hp → Prop, (∃ m, W 0 m (L2.upd H Dl (.lst []))) ∧ ∀ i m H, W i m H →
      ((Itr 0 n).stop i H ∧ Q Dl H) ∨ ((Itr 0 n).go i H ∧ ∃ Nx : Hp → Prop, (∀ H', Nx H' → ∃ m', m' < m ∧ W (i + 1) m' H') ∧ ∀ x H', (Itr 0 n).yld i H x H' → gName j x (wipe σ vs) H' fun σ2 H2 => wipe σ2 vs = wipe σ vs ∧ tYes σ2 H2 fun b H3 =>
        if b = true then te σ2 H3 fun y H4 => ∃ acc, H4 Dl = some (.lst acc) ∧ acc.length < sizeLine ∧ Nx (L2.upd H4 Dl (.lst (acc ++ [y]))) else Nx H3) := fun Dl hDl => by
  have nf := hD.fresh hDl
  refine lc_range (lo := 0) (n := n) (fun i H' => ∃ ys, ExD a l H H' ∧ Dr a l c (N + i * m) H' ∧ H' Dl = some (.lst ys) ∧ ys.length = i ∧ ∀ k v, ys[k]? = some v → P k v) ⟨[], ExD.of (Ex.new hDl), by rw [Nat.zero_mul]; exact hD.upd nf, upd_same, rfl, fun k v h => by simp at h⟩ (fun i H' hi p => ?_) (fun H' p => ?_)
  · obtain ⟨ys, p1, p2, p3, p4, p5⟩ := p
    refine ⟨hw _, et_yes (σ := (wipe σ vs).set j (some (.int ((0 : Int) + (i : Int))))) (H := H') H' (Ex.refl _) _ fun H3 e3 => ?_⟩
    rw [if_pos rfl]
    refine he i H3 hi (p1.trans (ExD.of e3)) (p2.mono e3) _ fun v H2 e2 d2 hv => ?_
    have p3 := e3 _ _ p3
    have e2' := e2
    have e2 := (ExD.of e3).trans e2
    refine ⟨ys, e2' _ _ p3 nf.1 nf.2.1, sz_lt (by omega), ys ++ [v], (p1.trans e2).mut hDl, ?_, upd_same, by rw [List.length_append, p4]; rfl, fun k w hk => ?_⟩
    · rw [Nat.succ_mul, ← Nat.add_assoc]
      exact d2.upd nf
    · rcases snoc_at p4 hk with ⟨h1, h2⟩ | ⟨rfl, rfl⟩
      · exact p5 k w h2
      · exact hv
  · obtain ⟨ys, p1, p2, p3, p4, p5⟩ := p
    exact q Dl ys H' hDl p1 p2 p3 p4 p5
/-- pick of a new list, of a text -/
theorem do_pickL {a l c : Addr} {N : Nat} {xs : List V} {E : XK} (h0 : σ[0]? = some (some (.ref a))) (hv : EvL te σ H xs) (hD : Dr a l c N H) (hN : N < 1000000) (h1 : 0 < xs.length) (h2 : xs.length < 100000) {Q : VK}
    (q : ∀ x H2, x ∈ xs → Dr a l c (N + 1) H2 → ExD a l H H2 → Q x H2) : tCall spPick [] E (tCons (tVar 0) (tCons te tNil)) σ H Q :=
  ⟨.ref a, h0, hv H (Ex.refl H) _ fun p H1 hp e1 hp1 => by
    have nf := hD.fresh hp
    exact ⟨a, l, c, N, .ref p, xs, rfl, hD.mono e1, hN, Or.inl ⟨p, rfl, Or.inl hp1, nf.1, nf.2.1⟩, h1, h2, fun x H2 hx d e => q x H2 hx d ((ExD.of e1).trans e)⟩⟩
theorem do_pickS {a l c : Addr} {N : Nat} {w : List Nat} {E : XK} (h0 : σ[0]? = some (some (.ref a))) (hv : Ev te σ H (.str (sL w))) (hD : Dr a l c N H) (hN : N < 1000000) (h1 : 0 < w.length) (h2 : w.length < 100000) {Q : VK}
    (q : ∀ x H2, x ∈ w → Dr a l c (N + 1) H2 → ExD a l H H2 → Q (chrV x) H2) : tCall spPick [] E (tCons (tVar 0) (tCons te tNil)) σ H Q :=
  ⟨.ref a, h0, hv H (Ex.refl H) _ fun H1 e1 => ⟨a, l, c, N, .str (sL w), w.map chrV, rfl, hD.mono e1, hN, Or.inr ⟨sL w, rfl, rfl⟩, by rw [List.length_map]; exact h1, by rw [List.length_map]; exact h2, fun x H2 hx d e => by
    obtain ⟨y, hy, rfl⟩ := List.mem_map.mp hx
    exact q y H2 hy d ((ExD.of e1).trans e)⟩⟩
end
def goodB (x : Str) : Bool := decide (1 ≤ x.length) && decide (x.length ≤ 8) && !inV (.str x) (keptL.map V.str) && x.cps.toList.all fun c => decide (c ∈ lettersS.cps.toList)
theorem kept_noq : ∀ z ∈ keptL, 113 ∉ z.cps.toList := fun z hz => by
  have h : keptL.all (fun z => decide (113 ∉ z.cps.toList)) = true := by decide +kernel
  exact of_decide_eq_true (List.all_eq_true.mp h z hz)
theorem letters_all : ∀ c ∈ L25 ++ [113], c ∈ lettersS.cps.toList ∧ c < 0x110000 := fun c hc => by
  have h : (L25 ++ [113]).all (fun c => decide (c ∈ lettersS.cps.toList ∧ c < 0x110000)) = true := by decide +kernel
  exact of_decide_eq_true (List.all_eq_true.mp h c hc)
theorem made_good {cut : Nat} {shift s : Int} {k : Nat} {n : List Nat} (h : Made cut shift s k n) : GoodN (sL n) ∧ PyData.strOk (sL n) = true := by
  obtain ⟨h1, h2, h3, h4⟩ := h.facts
  have hin : ∀ c ∈ n, c ∈ L25 ++ [113] := fun c hc => by
    rw [List.mem_append, List.mem_singleton]
    exact h4 c hc
  refine ⟨⟨h1, by rw [sL_len]; omega, ?_, fun c hc => (letters_all c (hin c hc)).1⟩, ?_⟩
  · rw [inV_strs]
    exact decide_eq_false fun hm => kept_noq _ hm h3
  · unfold PyData.strOk
    rw [← Array.all_toList, List.all_eq_true]
    exact fun c hc => decide_eq_true (letters_all c (hin c hc)).2
def spNames : Sp := fun vs H Q _ => ∃ (a l c : Addr) (N many : Nat), vs = [.ref a, .int (many : Nat)] ∧ Dr a l c N H ∧ N + 2000 < 1000000 ∧ many ≤ 20 ∧
  ∀ (q : Addr) (zs : List Str) (H' : Hp), zs.Nodup → (∀ z ∈ zs, GoodN z ∧ PyData.strOk z = true) → zs.length = many → Dr a l c (N + 200) H' → ExD a l H H' → H q = none → H' q = some (.lst (zs.map V.str)) → Q (.ref q) H'
abbrev l25S : Str := "abcdefghijklmnoprstuvwxyz"
theorem l25_eq : l25S = sL L25 := by decide +kernel
section
variable {P : Program} {w : World} {K : PySem.W.Frag} {mg : Str → Option Value} {base : Heap} {f : Addr} {fd : FuncData} {aK : Addr} {tk : Tk}
theorem ok__law_names (F : Fun K "_law_names" "_law_names" s__law_names f fd) (T : Tx K mg aK tk) (c__law_take : Cal P w K mg base CX0 2 "_law_take" ["draw", "many"] spTake) (c__law_pick : Cal P w K mg base CX0 3 "_law_pick" ["draw", "some"] spPick) :
    FnOk P w K mg base CX0 4 f fd ["draw", "many"] spNames := by
  refine F.ok sc__law_names (fun vs H Q E h => ?_) (fun cdv A outer s H vs Q E hr h => ?_)
  · obtain ⟨a, l, c, N, many, rfl, _⟩ := h
    rfl
  · obtain ⟨a, l, c, N, many, rfl, hD, hN, m24, q⟩ := h
    have hu := hu_of hr
    refine ⟨_, (pss_cons (ps_set (i := 2) sc__law_names.nd rfl (Or.inr rfl) pe_str)
      (pss_cons (ps_par3 (i := 3) (j := 4) (l := 5) (by rfl) sc__law_names.nd rfl rfl rfl (by decide) (by decide) (by decide) rfl rfl rfl (pa_cons (pe_cl c__law_take hr (by decide) (by rfl) (pa_cons (pv 0) (pa_cons pe_int pa_nil))) (pa_cons (pe_cl c__law_pick hr (by decide) (by rfl) (pa_cons (pv 0) (pa_cons (pe_lst (pa_cons pe_int (pa_cons pe_int (pa_cons pe_int (pa_cons pe_int (pa_cons pe_int (pa_cons pe_int (pa_cons pe_int (pa_cons pe_int (pa_cons pe_int pa_nil)))))))))) pa_nil))) (pa_cons (pe_cl c__law_take hr (by decide) (by rfl) (pa_cons (pv 0) (pa_cons pe_int pa_nil))) pa_nil))) (by rfl))
      (pss_cons (ps_setLc (i := 6) (own := [("k", 7)]) rfl sc__law_names.nd rfl rfl (sw_true rfl rfl rfl (by decide +kernel)) (pi_range1 (by rfl) T.range (pa_cons (pe_cl c__law_take hr (by decide) (by rfl) (pa_cons (pv 0) (pa_cons pe_int pa_nil))) pa_nil)) (blkOk_by (own := [("k", 7)]) (N := N__law_names) (sc := defScope s__law_names) (by decide +kernel)) (fun _ _ _ _ _ => (pg_name (i := 7) sc__law_names.nd rfl (Or.inl rfl))) (fun _ _ _ _ _ => pts_nil) (fun _ _ _ _ _ => (pe_cl c__law_pick hr (by decide) (by rfl) (pa_cons (pv 0) (pa_cons (pv 2) pa_nil)))))
      (pss_cons (ps_par (i := 8) (j := 9) (by rfl) sc__law_names.nd rfl rfl (by decide) rfl rfl (pa_cons (pe_cmpR op_eq (pe_cl c__law_take hr (by decide) (by rfl) (pa_cons (pv 0) (pa_cons pe_int pa_nil))) pe_int (nomark _)) (pa_cons (pe_lst pa_nil) pa_nil)) (by rfl))
      (pss_cons (ps_for PassesOwn.never rfl (pi_range1 (by rfl) T.range (pa_cons (pv 1) pa_nil)) (pg_name (i := 7) sc__law_names.nd rfl (Or.inl rfl))
        (pss_cons (ps_set (i := 10) sc__law_names.nd rfl (Or.inl rfl) (pe_callTy (crList (K := K) rfl) (by rfl) T.list (by decide +kernel) (pa_cons (pv 6) pa_nil)))
      (pss_cut (ps_if (pt_not (pt_val (pv 8)))
        (pss_one (ps_setLc (i := 10) (own := [("lap", 11)]) rfl sc__law_names.nd rfl rfl (sw_true rfl rfl rfl (by decide +kernel)) (pi_range1 (by rfl) T.range (pa_cons (pe_cl c__law_take hr (by decide) (by rfl) (pa_cons (pv 0) (pa_cons pe_int pa_nil))) pa_nil)) (blkOk_by (own := [("lap", 11)]) (N := N__law_names) (sc := defScope s__law_names) (by decide +kernel)) (fun _ _ _ _ _ => (pg_name (i := 11) sc__law_names.nd rfl (Or.inl rfl))) (fun _ _ _ _ _ => pts_nil) (fun _ _ _ _ _ => (pe_cl c__law_pick hr (by decide) (by rfl) (pa_cons (pv 0) (pa_cons (pv 2) pa_nil))))))
        pss_nil)
      (pss_cons (ps_set (i := 12) sc__law_names.nd rfl (Or.inl rfl) (pe_op op_add_str (pe_ix ix_str (pv 2) (pe_op op_mod (pe_op op_add (pv 3) (pe_op op_mul (pv 4) (pv 7))) pe_int) (fun _ _ => rfl)) (pe_ifExp (pt_cmpR op_gt (pv 1) pe_int (nomark _)) (pe_ix ix_str (pv 2) (pe_op op_fdiv (pv 7) pe_int) (fun _ _ => rfl)) pe_str)))
      (pss_cons (ps_set (i := 13) sc__law_names.nd rfl (Or.inl rfl) (pe_op op_add_str (pe_op op_add_str (peJoin (K := K) rfl pe_str (pe_slice (slL (K := K) rfl) (pv 10) po_none (po_some (pv 5)))) (pv 12)) (peJoin (K := K) rfl pe_str (pe_slice (slL (K := K) rfl) (pv 10) (po_some (pv 5)) po_none))))
      (pss_cons (ps_set (i := 14) sc__law_names.nd rfl (Or.inl rfl) (pe_cl c__law_take hr (by decide) (by rfl) (pa_cons (pv 0) (pa_cons (pe_op op_add (pe_callB call_len_str (by rfl) T.len (by decide +kernel) (pa_cons (pv 13) pa_nil)) pe_int) pa_nil))))
      (pss_one (ps_expr (pe_bm PySem.F.plainAttrs_list PySem.F.slot_list_append PySem.F.type_list_append mt_append (pv 9) (pa_cons (pe_ifExp (pt_cmpR op_eq (pe_slice sl_str (pv 13) (po_some (pv 14)) (po_some (pe_op op_add (pv 14) pe_int))) pe_str (nomark _)) (pe_op op_add_str (pv 13) pe_str) (pe_op op_add_str (pe_op op_add_str (pe_slice sl_str (pv 13) po_none (po_some (pv 14))) pe_str) (pe_slice sl_str (pv 13) (po_some (pv 14)) po_none))) pa_nil))))))))))
      (pss_one (ps_ret (pv 9)))))))), ?_⟩
    -- letters
    refine q_asg (ev_c (v := .str l25S)) fun H1 e1 => ?_
    have d1 := hD.mono e1
    rw [l25_eq]
    -- shift, step, cut
    refine do_take (H := H1) (size := 25) (ea_cons (ev_var rfl) (ea_cons ev_c ea_nil)) d1 (by omega) (by decide) (by decide) (Ex.refl _) fun shift H2 sh0 sh1 d2 e2 => ?_
    refine do_pickL (a := a) rfl (el_lst (ea_cons (ev_c (v := .int 1)) (ea_cons (ev_c (v := .int 2)) (ea_cons (ev_c (v := .int 3)) (ea_cons (ev_c (v := .int 4)) (ea_cons (ev_c (v := .int 6)) (ea_cons (ev_c (v := .int 7)) (ea_cons (ev_c (v := .int 8)) (ea_cons (ev_c (v := .int 9)) (ea_cons (ev_c (v := .int 11)) ea_nil))))))))) (by decide)) d2 (by omega) (by decide) (by decide) fun vstep H3 hstep d3 e3 => ?_
    obtain ⟨step, rfl, hs⟩ : ∃ step : Int, vstep = .int step ∧ stepOk step := by
      simp only [List.mem_cons, List.not_mem_nil, or_false] at hstep
      unfold stepOk
      rcases hstep with rfl | rfl | rfl | rfl | rfl | rfl | rfl | rfl | rfl <;> exact ⟨_, rfl, by decide⟩
    refine do_take (H := H3) (size := 4) (ea_cons (ev_var rfl) (ea_cons ev_c ea_nil)) d3 (by omega) (by decide) (by decide) (Ex.refl _) fun cutI H4 c0 c1 d4 e4 => ?_
    obtain ⟨cut, rfl⟩ := Int.eq_ofNat_of_zero_le c0
    refine ⟨_, _, _, rfl, ?_⟩
    -- common
    refine do_take (H := H4) (size := 6) (ea_cons (ev_var rfl) (ea_cons ev_c ea_nil)) d4 (by omega) (by decide) (by decide) (Ex.refl _) fun nI H5 n0 n1 d5 e5 => ?_
    obtain ⟨n, rfl⟩ := Int.eq_ofNat_of_zero_le n0
    refine ⟨_, rfl, by omega, by omega, ?_⟩
    rw [Int.toNat_natCast]
    refine lc_draw (n := n) (σ := [some (.ref a), some (.int (many : Nat)), some (.str (sL L25)), some (.int shift), some (.int step), some (.int (cut : Nat)), none, none, none, none, none, none, none, none, none]) (j := 7) (vs := [7]) (m := 1) (fun _ v => ∃ x ∈ L25, v = chrV x) d5 (by omega) (fun _ => rfl) (fun i H6 hi e6 d6 Q' q' => ?_) fun cm ys H6 hcm0 e6 d6 hcm hyl hys => ?_
    · refine do_pickS (a := a) rfl (ev_var (i := 2) rfl) d6 (by omega) (by decide) (by decide) fun x H7 hx d7 e7 => ?_
      exact q' _ H7 e7 d7 ⟨x, hx, rfl⟩
    obtain ⟨cb, rfl, hcb⟩ : ∃ cb : List Nat, ys = cb.map chrV ∧ ∀ x ∈ cb, x ∈ L25 := by
      have gen : ∀ zs : List V, (∀ v ∈ zs, ∃ x ∈ L25, v = chrV x) → ∃ cb : List Nat, zs = cb.map chrV ∧ ∀ x ∈ cb, x ∈ L25 := fun zs => by
        induction zs with
        | nil => exact fun _ => ⟨[], rfl, fun x hx => by cases hx⟩
        | cons z r ih =>
          intro h
          obtain ⟨x, hx, e⟩ := h z List.mem_cons_self
          obtain ⟨cb, e2, h2⟩ := ih fun v hv => h v (List.mem_cons_of_mem _ hv)
          exact ⟨x :: cb, by rw [e, e2]; rfl, fun y hy => by
            rcases List.mem_cons.mp hy with k | k
            · rw [k]
              exact hx
            · exact h2 y k⟩
      exact gen ys fun v hv => by
        obtain ⟨i, hi⟩ := List.mem_iff_getElem?.mp hv
        exact hys i v hi
    rw [List.length_map] at hyl
    -- is_alike, found
    refine do_take (H := H6) (size := 2) (ea_cons (ev_var rfl) (ea_cons ev_c ea_nil)) d6 (by omega) (by decide) (by decide) (Ex.refl _) fun al H7 _ _ d7 e7 => ?_
    refine ⟨rfl, ?_⟩
    generalize decide (V.int al = V.int 0) = alike
    refine ⟨Nat.zero_le _, fun fo hfo => ?_⟩
    refine ⟨_, _, rfl, ?_⟩
    have nfo := d7.fresh hfo
    have d8 := d7.upd (p := fo) (o := .lst []) nfo
    have hf8 : (upd H7 fo (.lst [])) fo = some (.lst []) := upd_same
    have ncm : cm ≠ a ∧ cm ≠ l ∧ cm ≠ c := d5.fresh hcm0
    have hcm7 := e7 _ _ hcm ncm.1 ncm.2.1
    have nmf : cm ≠ fo := ne_of_none hcm7 hfo
    have hcm8 : (upd H7 fo (.lst [])) cm = some (.lst (cb.map chrV)) := by
      rw [upd_ne nmf]
      exact hcm7
    have e08 : ExD a l H (upd H7 fo (.lst [])) := (((((ExD.of e1).trans e2).trans e3).trans (e4.trans (e5.trans (e6.trans e7)))).trans (ExD.of (Ex.new hfo)))
    have hfo0 : H fo = none := ExD.back (((((ExD.of e1).trans e2).trans e3).trans (e4.trans (e5.trans (e6.trans e7))))) d7 hfo
    generalize upd H7 fo (.lst []) = H8 at d8 hf8 hcm8 e08
    refine q_forR1 (n := (many : Int)) (ea_cons (ev_var (i := 1) rfl) ea_nil) (by omega) (fun i σ' H' => ∃ (y7 y10 y11 y12 y13 y14 : Option V) (ns : List (List Nat)), σ' = [some (.ref a), some (.int (many : Nat)), some (.str (sL L25)), some (.int shift), some (.int step), some (.int (cut : Nat)), some (.ref cm), y7, some (.bl alike), some (.ref fo), y10, y11, y12, y13, y14] ∧
        ExD a l H H' ∧ Dr a l c (N + 12 + 8 * i) H' ∧ H' cm = some (.lst (cb.map chrV)) ∧ H' fo = some (.lst (ns.map fun n => V.str (sL n))) ∧ ns.length = i ∧ ∀ k n, ns[k]? = some n → Made cut shift step k n)
      (fun H9 e9 => ⟨none, none, none, none, none, none, [], rfl, e08.trans (ExD.of e9), (d8.mono e9).up (by omega), e9 _ _ hcm8, e9 _ _ hf8, rfl, fun k n h => by simp at h⟩) (fun i σ' H' hi hP => ?_) (fun σ' H' hP => ?_)
    · obtain ⟨y7, y10, y11, y12, y13, y14, ns, rfl, eH, dH, hcm', hfo', hns, hmade⟩ := hP
      have hi24 : i < 24 := by omega
      -- body = list(common)
      refine q_asgL (σ := [some (.ref a), some (.int (many : Nat)), some (.str (sL L25)), some (.int shift), some (.int step), some (.int (cut : Nat)), some (.ref cm), some (.int (i : Int)), some (.bl alike), some (.ref fo), y10, y11, y12, y13, y14]) (el_list (K := K) (ev_var (i := 6) rfl) (sq_of hcm')) fun b1 H9 hb1 e9 hb9 => ?_
      refine q_cut (M := fun σ' H' => ∃ (bo : Addr) (y11 : Option V) (bs : List Nat), σ' = [some (.ref a), some (.int (many : Nat)), some (.str (sL L25)), some (.int shift), some (.int step), some (.int (cut : Nat)), some (.ref cm), some (.int (i : Int)), some (.bl alike), some (.ref fo), some (.ref bo), y11, y12, y13, y14] ∧
        ExD a l H H' ∧ Dr a l c (N + 12 + 8 * i + 6) H' ∧ H' cm = some (.lst (cb.map chrV)) ∧ H' fo = some (.lst (ns.map fun n => V.str (sL n))) ∧ H' bo = some (.lst (bs.map chrV)) ∧ bs.length ≤ 5 ∧ ∀ x ∈ bs, x ∈ L25) ?_ fun σ' H10 hP => ?_
      · refine s_when (σ := [some (.ref a), some (.int (many : Nat)), some (.str (sL L25)), some (.int shift), some (.int step), some (.int (cut : Nat)), some (.ref cm), some (.int (i : Int)), some (.bl alike), some (.ref fo), some (.ref b1), y11, y12, y13, y14]) (b := !alike) (et_not (et_B (ev_var (i := 8) rfl))) (fun hb H10 e10 => ?_) fun hb H10 e10 => ?_
        · have d10 := (dH.mono e9).mono e10
          refine do_take (H := H10) (size := 6) (ea_cons (ev_var rfl) (ea_cons ev_c ea_nil)) d10 (by omega) (by decide) (by decide) (Ex.refl _) fun nI H11 n0 n1 d11 e11 => ?_
          obtain ⟨n2, rfl⟩ := Int.eq_ofNat_of_zero_le n0
          refine ⟨_, rfl, by omega, by omega, ?_⟩
          rw [Int.toNat_natCast]
          refine lc_draw (n := n2) (σ := [some (.ref a), some (.int (many : Nat)), some (.str (sL L25)), some (.int shift), some (.int step), some (.int (cut : Nat)), some (.ref cm), some (.int (i : Int)), some (.bl alike), some (.ref fo), some (.ref b1), y11, y12, y13, y14]) (j := 11) (vs := [11]) (m := 1) (fun _ v => ∃ x ∈ L25, v = chrV x) d11 (by omega) (fun _ => rfl) (fun i H6 hi e6 d6 Q' q' => ?_) fun bo ys H12 hbo0 e12 d12 hbo hyl2 hys2 => ?_
          · refine do_pickS (a := a) rfl (ev_var (i := 2) rfl) d6 (by omega) (by decide) (by decide) fun x H7 hx d7 e7 => ?_
            exact q' _ H7 e7 d7 ⟨x, hx, rfl⟩
          obtain ⟨bs, rfl, hbs⟩ : ∃ cb : List Nat, ys = cb.map chrV ∧ ∀ x ∈ cb, x ∈ L25 := by
            have gen : ∀ zs : List V, (∀ v ∈ zs, ∃ x ∈ L25, v = chrV x) → ∃ cb : List Nat, zs = cb.map chrV ∧ ∀ x ∈ cb, x ∈ L25 := fun zs => by
              induction zs with
              | nil => exact fun _ => ⟨[], rfl, fun x hx => by cases hx⟩
              | cons z r ih =>
                intro h
                obtain ⟨x, hx, e⟩ := h z List.mem_cons_self
                obtain ⟨cb, e2, h2⟩ := ih fun v hv => h v (List.mem_cons_of_mem _ hv)
                exact ⟨x :: cb, by rw [e, e2]; rfl, fun y hy => by
                  rcases List.mem_cons.mp hy with k | k
                  · rw [k]
                    exact hx
                  · exact h2 y k⟩
            exact gen ys fun v hv => by
              obtain ⟨i, hi⟩ := List.mem_iff_getElem?.mp hv
              exact hys2 i v hi
          rw [List.length_map] at hyl2
          have e9_12 := (ExD.of (e9.trans e10)).trans (e11.trans e12)
          exact ⟨bo, y11, bs, rfl, eH.trans e9_12, d12.up (by omega), e9_12 _ _ hcm' ncm.1 ncm.2.1, e9_12 _ _ hfo' nfo.1 nfo.2.1, hbo, by omega, hbs⟩
        · have e910 := e9.trans e10
          exact ⟨b1, y11, cb, rfl, eH.trans (ExD.of e910), (dH.mono e910).up (by omega), e910 _ _ hcm', e910 _ _ hfo', e10 _ _ hb9, by omega, hcb⟩
      · obtain ⟨bo, y11, bs, rfl, eH2, dH2, hcm2, hfo2, hbo2, hbl, hbs⟩ := hP
        -- own
        have i1 : ((shift + step * (i : Int)) % 25).toNat < L25.length := by
          have e1 := Int.emod_nonneg (shift + step * (i : Int)) (show (25 : Int) ≠ 0 by decide)
          have e2 := Int.emod_lt_of_pos (shift + step * (i : Int)) (show (0 : Int) < 25 by decide)
          show _ < 25
          omega
        obtain ⟨oc, hoc⟩ := get_of (l := L25) (i := ((shift + step * (i : Int)) % 25).toNat) rfl i1
        have i0 := Int.emod_nonneg (shift + step * (i : Int)) (show (25 : Int) ≠ 0 by decide)
        have sb : -(2 ^ 64) < step ∧ step < 2 ^ 64 := by
          unfold stepOk at hs
          rcases hs with rfl | rfl | rfl | rfl | rfl | rfl | rfl | rfl | rfl <;> decide
        refine q_asg (v := .str (sL ([oc] ++ []))) (σ := [some (.ref a), some (.int (many : Nat)), some (.str (sL L25)), some (.int shift), some (.int step), some (.int (cut : Nat)), some (.ref cm), some (.int (i : Int)), some (.bl alike), some (.ref fo), some (.ref bo), y11, y12, y13, y14])
          (ev_addS (ev_op (ev_var (i := 2) rfl) (ev_mod (ev_add (ev_var (i := 3) rfl) (ev_mul (ev_var (i := 4) rfl) (ev_var (i := 7) rfl) (Or.inl sb))) ev_c (by decide)) (rv_ixS (by decide) (by
            rw [← Int.toNat_of_nonneg i0]
            exact at_nat hoc))) (ev_if (b := false) (et_is (et_test (ev_gtV (ev_var (i := 1) rfl) ev_c)) (decide_eq_false (by omega))) (fun z => by cases z) fun _ => ev_c) (by simp)) fun H11 e11 => ?_
        rw [List.append_nil]
        -- text
        refine q_asg (v := .str (sL (textOf bs cut oc))) (σ := [some (.ref a), some (.int (many : Nat)), some (.str (sL L25)), some (.int shift), some (.int step), some (.int (cut : Nat)), some (.ref cm), some (.int (i : Int)), some (.bl alike), some (.ref fo), some (.ref bo), y11, some (.str (sL [oc])), y13, y14])
          (ev_addS (ev_addS (ev_join (K := K) (by
            have := el_sl (K := K) (σ := [some (.ref a), some (.int (many : Nat)), some (.str (sL L25)), some (.int shift), some (.int step), some (.int (cut : Nat)), some (.ref cm), some (.int (i : Int)), some (.bl alike), some (.ref fo), some (.ref bo), y11, some (.str (sL [oc])), y13, y14]) (H := H11) (te := tVar 10) (ev_var rfl) eo_none (eo_some (ev_var (i := 5) rfl)) (sq_of (e11 _ _ hbo2))
            rw [cut_front, ← List.map_take] at this
            exact this) (by rw [List.length_take]; omega)) (ev_var (i := 12) rfl) (by rw [List.length_take, List.length_singleton]; omega)) (ev_join (K := K) (by
            have := el_sl (K := K) (σ := [some (.ref a), some (.int (many : Nat)), some (.str (sL L25)), some (.int shift), some (.int step), some (.int (cut : Nat)), some (.ref cm), some (.int (i : Int)), some (.bl alike), some (.ref fo), some (.ref bo), y11, some (.str (sL [oc])), y13, y14]) (H := H11) (te := tVar 10) (ev_var rfl) (eo_some (ev_var (i := 5) rfl)) eo_none (sq_of (e11 _ _ hbo2))
            rw [cut_back, ← List.map_drop] at this
            exact this) (by rw [List.length_drop]; omega)) (by rw [List.length_append, List.length_take, List.length_singleton, List.length_drop]; omega)) fun H12 e12 => ?_
        have hlt : (textOf bs cut oc).length ≤ 6 := by
          rw [textOf_len]
          omega
        have hmk : ∀ at', Made cut shift step i (nameOf (textOf bs cut oc) at') := fun at' => ⟨bs, oc, at', hbl, hbs, hoc, rfl⟩
        generalize textOf bs cut oc = tx at hlt hmk
        -- at
        have e112 := e11.trans e12
        refine do_take (H := H12) (size := ((sL tx).length : Int) + 1) (ea_cons (ev_var rfl) (ea_cons (ev_add (ev_lenS (w := sL tx) (ev_var (i := 13) rfl) (by rw [sL_len]; omega)) ev_c) ea_nil)) (dH2.mono e112) (by omega) (by omega) (by rw [sL_len]; omega) (Ex.refl _) fun atI H13 a0 a1 d13 e13 => ?_
        obtain ⟨at', rfl⟩ := Int.eq_ofNat_of_zero_le a0
        rw [sL_len] at a1
        have hat : at' ≤ tx.length := by omega
        have e113 := (ExD.of e112).trans e13
        have nmk := hmk at'
        refine s_app (K := K) (σ := [some (.ref a), some (.int (many : Nat)), some (.str (sL L25)), some (.int shift), some (.int step), some (.int (cut : Nat)), some (.ref cm), some (.int (i : Int)), some (.bl alike), some (.ref fo), some (.ref bo), y11, some (.str (sL [oc])), some (.str (sL tx)), some (.int (at' : Nat))]) (v := .str (sL (nameOf tx at'))) (e113 _ _ hfo2 nfo.1 nfo.2.1) (ev_var (i := 9) rfl) ?_ (by rw [List.length_map]; omega) fun H14 e14 => ?_
        · refine ev_if (b := decide ((tx.drop at').take 1 = [117])) (et_is (et_test (ev_op (ev_slS (ev_var (i := 13) rfl) (eo_some (ev_var (i := 14) rfl)) (eo_some (ev_add (ev_var (i := 14) rfl) ev_c)) (by omega)) ev_c (rv_eq rfl))) ?_) (fun hb => ?_) fun hb => ?_
          · rw [cutS_mid tx hat]
            have : ((V.str (sL ((tx.drop at').take 1))) = V.str "u") ↔ (tx.drop at').take 1 = [117] := by
              rw [V.str.injEq, show ("u" : Str) = sL [117] by decide +kernel, sL_inj]
            exact decide_eq_decide.mpr this
          · have hb := of_decide_eq_true hb
            unfold nameOf
            rw [if_pos hb]
            exact ev_addS (j := [113]) (ev_var (i := 13) rfl) (ev_is (ev_c (v := .str "q")) (by decide +kernel)) (by simp; omega)
          · have hb := of_decide_eq_false hb
            unfold nameOf
            rw [if_neg hb]
            refine ev_addS (ev_addS (j := [113]) (ev_is (ev_slS (ev_var (i := 13) rfl) eo_none (eo_some (ev_var (i := 14) rfl)) (by omega)) (by rw [cutS_front tx hat])) (ev_is (ev_c (v := .str "q")) (by decide +kernel)) (by simp; omega))
              (ev_is (ev_slS (ev_var (i := 13) rfl) (eo_some (ev_var (i := 14) rfl)) eo_none (by omega)) (by rw [cutS_back tx hat])) (by simp; omega)
        · have e14' := (eH2.trans e113).trans (ExD.of e14)
          refine ⟨_, _, _, _, _, _, ns ++ [nameOf tx at'], rfl, e14'.mut hfo0, ((d13.mono e14).upd nfo).up (by omega), ?_, ?_, by rw [List.length_append, hns]; rfl, fun k n hk => ?_⟩
          · rw [upd_ne nmf]
            exact e14 _ _ (e113 _ _ hcm2 ncm.1 ncm.2.1)
          · rw [upd_same, List.map_append]
            rfl
          · rcases snoc_at hns hk with ⟨_, h2⟩ | ⟨rfl, rfl⟩
            · exact hmade k n h2
            · exact nmk
    · obtain ⟨y7, y10, y11, y12, y13, y14, ns, rfl, eH, dH, hcm', hfo', hns, hmade⟩ := hP
      rw [Int.toNat_natCast] at hns dH
      refine s_ret (v := .ref fo) (ev_var (i := 9) rfl) fun H9 e9 => ?_
      refine q fo (ns.map sL) H9 ?_ (fun z hz => ?_) (by rw [List.length_map]; exact hns) ((dH.mono e9).up (by omega)) (eH.trans (ExD.of e9)) hfo0 (by rw [List.map_map]; exact e9 _ _ hfo')
      · rw [List.nodup_iff_pairwise_ne, List.pairwise_map]
        rw [List.pairwise_iff_getElem]
        intro i j hi hj hij e
        have hi' : i < many := by rw [← hns]; exact hi
        have hj' : j < many := by rw [← hns]; exact hj
        have h1 := hmade i _ (List.getElem?_eq_getElem hi)
        have h2 := hmade j _ (List.getElem?_eq_getElem hj)
        have := Made.ne hs (by omega) (by omega) h1 h2 (sL_inj.mp e)
        omega
      · obtain ⟨n, hn, rfl⟩ := List.mem_map.mp hz
        obtain ⟨k, hk⟩ := List.mem_iff_getElem?.mp hn
        exact made_good (hmade k n hk)
end
end NQ
namespace NQ
open PySem PySem.Spec PyProof.Rows L2 Evl
open KQ (Row)
section
variable {K : PySem.W.Frag} {σ : L2.St} {H H' H0 : Hp} {ta tb te td ty to te' : TE} {t u : TT} {x y z v : V} {tr : TA} {D : Ends} {tu tz : TS} {tl th : TO} {a l c : Addr} {N : Nat}
/-- tuples stand while draws are made -/
theorem Dr.tx (d : Dr a l c N H) (e : ExD a l H H') : TX H H' := by
  obtain ⟨kvs, lg, cs, rest, turn, h1, _, _, _, _, _, h7, _⟩ := d.ex
  exact fun p xs hp => e.dK hp h1 h7
def PayL (H : Hp) (q : Addr) (xs : List (Str × Int)) : Prop := ∃ ps : List Addr, H q = some (.lst (ps.map V.ref)) ∧ Paired (PairH H) ps xs
/-- the dict of lists of payments -/
structure Pays (a l c : Addr) (H0 H : Hp) (d : Addr) (ns : List Str) (kvs : List (Key × V)) (f : Str → Addr) (F : Str → List (Str × Int)) : Prop where
  hd : H d = some (.dK kvs)
  hv : ∀ n ∈ ns, valV kvs (Sum.inr n) = some (.ref (f n))
  inj : ∀ n ∈ ns, ∀ m ∈ ns, f n = f m → n = m
  new : ∀ n ∈ ns, H0 (f n) = none ∧ f n ≠ a ∧ f n ≠ l ∧ f n ≠ c
  dn : d ≠ a ∧ d ≠ l
  pl : ∀ n ∈ ns, PayL H (f n) (F n)
section
variable {d : Addr} {ns : List Str} {kvs : List (Key × V)} {f : Str → Addr} {F : Str → List (Str × Int)}
theorem Pays.exD (P : Pays a l c H0 H d ns kvs f F) (dr : Dr a l c N H) (e : ExD a l H H') : Pays a l c H0 H' d ns kvs f F :=
  ⟨e _ _ P.hd P.dn.1 P.dn.2, P.hv, P.inj, P.new, P.dn, fun n hn => by
    obtain ⟨ps, h1, h2⟩ := P.pl n hn
    exact ⟨ps, e _ _ h1 (P.new n hn).2.1 (P.new n hn).2.2.1, L2.Paired.mapP h2 fun _ _ z => z.tx (dr.tx e)⟩⟩
theorem Pays.ex (P : Pays a l c H0 H d ns kvs f F) (e : Ex H H') : Pays a l c H0 H' d ns kvs f F :=
  ⟨e _ _ P.hd, P.hv, P.inj, P.new, P.dn, fun n hn => by
    obtain ⟨ps, h1, h2⟩ := P.pl n hn
    exact ⟨ps, e _ _ h1, L2.Paired.mapP h2 fun _ _ z => z.tx (TX.of e)⟩⟩
theorem Pays.app (P : Pays a l c H0 H d ns kvs f F) {one : Str} (h1 : one ∈ ns) {p : Addr} {x : Str × Int} (hp : H p = some (.tup [.str x.1, .int x.2])) {ps : List Addr} (hq : H (f one) = some (.lst (ps.map V.ref))) (hpr : Paired (PairH H) ps (F one)) :
    Pays a l c H0 (L2.upd H (f one) (.lst (ps.map V.ref ++ [.ref p]))) d ns kvs f (fun n => if n = one then F one ++ [x] else F n) := by
  have tx : TX H (L2.upd H (f one) (.lst (ps.map V.ref ++ [.ref p]))) := TX.updL hq
  refine ⟨?_, P.hv, P.inj, P.new, P.dn, fun n hn => ?_⟩
  · rw [upd_ne (ne_of P.hd hq (by intro z; cases z))]
    exact P.hd
  · by_cases e : n = one
    · subst e
      refine ⟨ps ++ [p], by rw [upd_same, List.map_append]; rfl, ?_⟩
      rw [if_pos rfl]
      exact paired_snoc (L2.Paired.mapP hpr fun _ _ z => z.tx tx) (tx _ _ hp)
    · obtain ⟨qs, g1, g2⟩ := P.pl n hn
      refine ⟨qs, ?_, ?_⟩
      · rw [upd_ne fun z => e (P.inj n hn one h1 z)]
        exact g1
      · rw [if_neg e]
        exact L2.Paired.mapP g2 fun _ _ z => z.tx tx
end
/-- good payments -/
structure OkF (ns : List Str) (most : Nat) (top : Int) (F : Str → List (Str × Int)) : Prop where
  len : ∀ n ∈ ns, (F n).length ≤ most
  each : ∀ n ∈ ns, ∀ x ∈ F n, x.1 ≠ n ∧ x.1 ∈ ns ∧ 1 ≤ x.2 ∧ x.2 ≤ top
theorem OkF.app {ns : List Str} {most : Nat} {top : Int} {F : Str → List (Str × Int)} (G : OkF ns most top F) {one : Str} {x : Str × Int} (h : (F one).length < most) (h1 : x.1 ≠ one) (h2 : x.1 ∈ ns) (h3 : 1 ≤ x.2) (h4 : x.2 ≤ top) : OkF ns most top (fun n => if n = one then F one ++ [x] else F n) := by
  refine ⟨fun n hn => ?_, fun n hn y hy => ?_⟩
  · split
    · rw [List.length_append, List.length_singleton]
      omega
    · exact G.len n hn
  · split at hy
    · rename_i e
      rw [e]
      rcases List.mem_append.mp hy with k | k
      · rw [e] at hn
        exact G.each one hn y k
      · rw [List.mem_singleton.mp k]
        exact ⟨h1, h2, h3, h4⟩
    · exact G.each n hn y hy
/-- for j in range(e), e drawn -/
theorem q_forRD {j : Nat} (B : Nat) (hB : B ≤ 100000) (Pv : Nat → L2.St → Hp → Prop) (he : ∀ R : List V → Hp → Prop, (∀ (n : Nat) H1, n ≤ B → Pv 0 σ H1 → R [.int (n : Nat)] H1) → tr σ H R)
    (hs : ∀ (i : Nat) σ' H', i < B → Pv i σ' H' → tu { D with nx := Pv (i + 1), ct := Pv (i + 1), bk := tz D } (σ'.set j (some (.int (i : Int)))) H') (hd : ∀ n σ' H', n ≤ B → Pv n σ' H' → tz D σ' H') : tSeq (tFor (iRng1 tr) (gName j) tu) tz D σ H := by
  refine he _ fun n H1 hn h0 => ⟨(n : Int), rfl, by omega, by omega, ?_⟩
  rw [Int.toNat_natCast]
  refine for_range (lo := 0) (n := n) (D := { D with nx := tz D }) Pv h0 (fun i σ' H' hi p => ?_) (hd n · · hn)
  have e0 : (0 : Int) + (i : Int) = (i : Int) := Int.zero_add _
  show tu { D with nx := Pv (i + 1), ct := Pv (i + 1), bk := tz D } (σ'.set j (some (.int ((0 : Int) + (i : Int))))) H'
  rw [e0]
  exact hs i σ' H' (by omega) p
/-- what draws an int from 1 to top -/
def DrI (a l c : Addr) (N : Nat) (te : TE) (σ : L2.St) (H : Hp) (top : Int) : Prop := ∀ H1, ExD a l H H1 → Dr a l c N H1 → ∀ Q : VK, (∀ z H2, 1 ≤ z → z ≤ top → Dr a l c (N + 1) H2 → ExD a l H1 H2 → Q (.int z) H2) → te σ H1 Q
/-- a comprehension over what J gives, once J stands -/
theorem lc_G {J : It} {G : Hp → Prop} {Y : Nat → Hp → V → Hp → Prop} {n : Nat} {g : TG} {tt : TT} {vs : List Nat} (W : Walk J n G Y) (hG : ∀ H3, Ex H H3 → G H3) (hn : n ≤ 40000) (P : Nat → V → Hp → Prop) (hP : ∀ i v H1 H2, TX H1 H2 → P i v H1 → P i v H2)
    (hb : ∀ i x H1 H2, Ex H H1 → i < n → Y i H1 x H2 → Ex H1 H2 ∧ ∃ σ2, (∀ R : L2.St → Hp → Prop, R σ2 H2 → g x (wipe σ vs) H2 R) ∧ wipe σ2 vs = wipe σ vs ∧ EvT tt σ2 H2 true ∧ Gv te σ2 H2 (P i))
    {Q : Addr → Hp → Prop} (q : ∀ p ys H2, H p = none → Ex H H2 → H2 p = some (.lst ys) → Paired (fun i y => P i y H2) (List.range n) ys → Q p H2) :
    ∀ Dl, H Dl = none → ∃ W : Nat → Nat → Hp → Prop, (∃ m, W 0 m (L2.upd H Dl (.lst []))) ∧ ∀ i m H, W i m H →
      (J.stop i H ∧ Q Dl H) ∨ (J.go i H ∧ ∃ Nx : Hp → Prop, (∀ H', Nx H' → ∃ m', m' < m ∧ W (i + 1) m' H') ∧ ∀ x H', J.yld i H x H' → g x (wipe σ vs) H' fun σ2 H2 => wipe σ2 vs = wipe σ vs ∧ tt σ2 H2 fun b H3 =>
        if b = true then te σ2 H3 fun y H4 => ∃ acc, H4 Dl = some (.lst acc) ∧ acc.length < sizeLine ∧ Nx (L2.upd H4 Dl (.lst (acc ++ [y]))) else Nx H3) := fun Dl hD => by
  refine lc_it W (fun i H' => ∃ ys, Ex H H' ∧ H' Dl = some (.lst ys) ∧ Paired (fun j y => P j y H') (List.range i) ys) ⟨[], Ex.new hD, upd_same, .nil⟩ (fun i H' _ p => ?_) (fun i x H' H2 hi p hy => ?_) fun H' p => ?_
  · obtain ⟨ys, p2, p3, p4⟩ := p
    exact hG H' p2
  · obtain ⟨ys, p2, p3, p4⟩ := p
    obtain ⟨e2, σ2, b2, b1, b3, b4⟩ := hb i x H' H2 p2 hi hy
    refine b2 _ ⟨b1, b3 H2 (Ex.refl H2) _ fun H3 e3 => ?_⟩
    have hl : ys.length = i := by rw [← paired_len p4, List.length_range]
    rw [if_pos rfl]
    refine b4 H3 e3 _ fun y H4 e4 hy4 => ?_
    have e24 := (e2.trans e3).trans e4
    refine ⟨ys, e24 _ _ p3, sz_lt (by omega), ys ++ [y], Ex.mut (p2.trans e24) hD, upd_same, ?_⟩
    rw [List.range_succ]
    have tx : TX H4 (L2.upd H4 Dl (.lst (ys ++ [y]))) := TX.updL (e24 _ _ p3)
    exact paired_snoc (L2.Paired.mapP p4 fun j w hw => hP j w _ _ ((TX.of e24).trans tx) hw) (hP i y _ _ tx hy4)
  · obtain ⟨ys, p2, p3, p4⟩ := p
    exact q Dl ys H' hD p2 p3 p4
/-- if len(payments[one]) < most: payments[one].append((o, e)) -/
theorem s_payIf {d : Addr} {ns : List Str} {kvs : List (Key × V)} {f : Str → Addr} {F : Str → List (Str × Int)} {most : Nat} {top : Int} {one o : Str} (h4 : σ[4]? = some (some (.ref d))) (h2 : σ[2]? = some (some (.int (most : Nat)))) (P : Pays a l c H0 H d ns kvs f F) (G : OkF ns most top F) (m60 : most ≤ 60) (dr : Dr a l c N H) (e0 : ExD a l H0 H)
    (ho : one ∈ ns) (hk : Ev te σ H (.str one)) (hx : Ev to σ H (.str o)) (ho2 : o ∈ ns) (hne : o ≠ one) (hz : DrI a l c N te' σ H top)
    (k : ∀ F' H', OkF ns most top F' → Pays a l c H0 H' d ns kvs f F' → Dr a l c (N + 1) H' → ExD a l H0 H' → (∀ b u, H b = some u → b ≠ a → b ≠ l → (∀ n ∈ ns, b ≠ f n) → H' b = some u) → D.nx σ H') :
    tIfS (tTest (tOp (rI0 fun i j => .bl (decide (i < j))) (tCB (rLenS K) (tCons (tDGet (tVar 4) te) tNil)) (tVar 2))) (tDrop (tBM K "list" rAppend (tDGet (tVar 4) te) (tCons (tTup (tCons to (tCons te' tNil))) tNil))) tNext D σ H := by
  obtain ⟨ps, hq, hpr⟩ := P.pl one ho
  have hl : ps.length = (F one).length := paired_len hpr
  have nf := P.new one ho
  have g60 := G.len one ho
  have get : ∀ {H1 : Hp}, Ex H H1 → Ev (tDGet (tVar 4) te) σ H1 (.ref (f one)) := fun e => ev_dget (k := Sum.inr one) (ev_var h4) (hk.mono e) (e _ _ P.hd) (P.hv one ho)
  refine s_when (b := decide ((F one).length < most)) (et_is (et_test (ev_ltV (ev_len (get (Ex.refl H)) (sq_of hq)) (ev_var h2))) ?_) (fun hb H1 e1 => ?_) (fun hb H1 e1 => ?_)
  · rw [List.length_map, hl]
    exact decide_eq_decide.mpr (by omega)
  · have hlt := of_decide_eq_true hb
    refine get e1 H1 (Ex.refl _) _ fun H2 e2 => ⟨Or.inl ⟨rfl, _, sq_of ((e1.trans e2) _ _ hq)⟩, ?_⟩
    have e12 := e1.trans e2
    refine hx H2 e12 _ fun H3 e3 => ?_
    have e13 := e12.trans e3
    refine hz H3 (ExD.of e13) (dr.mono e13) _ fun zz H4 z1 z2 d4 e4 => ⟨by show 2 ≤ sizeLine; decide, fun p hp => ?_⟩
    have e05 : ExD a l H (L2.upd H4 p (.tup [.str o, .int zz])) := ((ExD.of e13).trans e4).trans (ExD.of (Ex.new hp))
    have d5 := d4.upd (p := p) (o := .tup [.str o, .int zz]) (d4.fresh hp)
    have hp5 : (L2.upd H4 p (.tup [.str o, .int zz])) p = some (.tup [.str o, .int zz]) := upd_same
    generalize L2.upd H4 p (.tup [.str o, .int zz]) = H5 at e05 d5 hp5
    have P5 := P.exD dr e05
    have hq5 : H5 (f one) = some (.lst (ps.map V.ref)) := e05 _ _ hq nf.2.1 nf.2.2.1
    refine ⟨f one, _, .ref p, rfl, rfl, hq5, sz_lt (by rw [List.length_map, hl]; omega), ?_⟩
    refine k _ _ (G.app hlt hne ho2 z1 z2) (P5.app ho (x := (o, zz)) hp5 hq5 (L2.Paired.mapP hpr fun _ _ z => z.tx (dr.tx e05))) (d5.upd nf.2) ((e0.trans e05).mut nf.1) fun b u hb nb1 nb2 hbn => ?_
    rw [upd_ne (hbn one ho)]
    exact e05 _ _ hb nb1 nb2
  · exact k F H1 G (P.exD dr (ExD.of e1)) ((dr.mono e1).up (by omega)) (e0.trans (ExD.of e1)) fun b u hb _ _ _ => e1 _ _ hb
/-- shuffled(draw, list(names))[:m], m drawn -/
theorem do_shufCut {ns : List Str} {nl : Addr} {E : XK} (h0 : σ[0]? = some (some (.ref a))) (h1 : σ[1]? = some (some (.ref nl))) (hn : H nl = some (.lst (ns.map V.str))) (dr : Dr a l c N H) (hN : N + 1000 < 1000000) (hl : ns.length ≤ 20) (hok : ∀ z ∈ ns, PyData.strOk z = true) {M : Nat} (pm : Nat → Prop)
    (hm : ∀ H1 (R : Option Int → Hp → Prop), Dr a l c (N + ns.length) H1 → ExD a l H H1 → (∀ (m : Nat) H2, pm m → Dr a l c M H2 → ExD a l H1 H2 → R (some (m : Nat)) H2) → th σ H1 R) {Q : VK}
    (q : ∀ p (zs : List Str) (m : Nat) H2, H p = none → H2 p = some (.lst (zs.map V.str)) → pm m → zs.length = min m ns.length → (ns.Nodup → zs.Nodup) → (∀ z ∈ zs, z ∈ ns) → Dr a l c M H2 → ExD a l H H2 → Q (.ref p) H2) :
    tSl (rSlL K) (tCall spShuf [] E (tCons (tVar 0) (tCons (tCB (rListS' K) (tCons (tVar 1) tNil)) tNil))) tNoPart th σ H Q := by
  refine ⟨.ref a, h0, .ref nl, h1, nl, _, rfl, Or.inl (sq_of hn), fun cp hcp => ?_⟩
  have nf := dr.fresh hcp
  refine ⟨a, l, c, N, cp, ns, rfl, dr.upd nf, hN, ⟨Or.inl upd_same, nf.1, nf.2.1⟩, by omega, hok, fun q1 ys H2 hperm d2 e2 hq0 hq1 => ?_⟩
  have e02 : ExD a l H H2 := (ExD.of (Ex.new hcp)).trans e2
  have nq := (dr.upd (p := cp) (o := .lst (ns.map V.str)) nf).fresh hq0
  refine hm H2 _ d2 e02 fun m H3 hlo d3 e3 => ?_
  refine ⟨q1, _, rfl, sq_of (e3 _ _ hq1 nq.1 nq.2.1), fun p hp => ?_⟩
  rw [cut_front, ← List.map_take]
  have e03 := e02.trans e3
  exact q p (ys.take m) m _ (ExD.back e03 d3 hp) upd_same hlo (by rw [List.length_take, hperm.length_eq]) (fun hnd => (hperm.nodup_iff.mpr hnd).sublist (List.take_sublist _ _)) (fun z hz => hperm.mem_iff.mp (List.mem_of_mem_take hz)) (d3.upd (d3.fresh hp)) (e03.trans (ExD.of (Ex.new hp)))
theorem at_prev {zs : List Str} {j : Nat} (hj : j < zs.length) : ∃ (i : Nat) (z : Str), zs[i]? = some z ∧ (i ≠ j ∨ zs.length = 1) ∧ atI (zs.map V.str) ((j : Int) - 1) = some (.str z) := by
  by_cases h0 : j = 0
  · subst h0
    obtain ⟨z, hz⟩ := get_of (l := zs) (i := zs.length - 1) rfl (by omega)
    refine ⟨zs.length - 1, z, hz, by omega, ?_⟩
    unfold atI ixN
    rw [List.length_map, if_neg (by omega), if_pos (by omega)]
    show (zs.map V.str)[_]? = _
    rw [show (((0 : Nat) : Int) - 1 + (zs.length : Int)).toNat = zs.length - 1 by omega, List.getElem?_map, hz]
    rfl
  · obtain ⟨z, hz⟩ := get_of (l := zs) (i := j - 1) rfl (by omega)
    refine ⟨j - 1, z, hz, by omega, at_of (j := j - 1) (by omega) ?_⟩
    rw [List.getElem?_map, hz]
    rfl
end
theorem idx_at {ns : List Str} (hn : ns.Nodup) {j : Nat} {n : Str} (h : ns[j]? = some n) : ns.idxOf n = j := by
  obtain ⟨hj, e⟩ := List.getElem?_eq_some_iff.mp h
  rw [← e]
  exact List.Nodup.idxOf_getElem hn j hj
/-- cash and payments drawn, as rows -/
def mkRows (C : Str → Int) (F : Str → List (Str × Int)) (zs : List Str) : List (Row Str) := zs.map fun n => (n, C n, F n)
def spLists : Sp := fun vs H Q _ => ∃ (a l c : Addr) (N : Nat) (nl : Addr) (ns : List Str) (most top : Nat), vs = [.ref a, .ref nl, .int (most : Nat), .int (top : Nat)] ∧ Dr a l c N H ∧ N + 3000 < 1000000 ∧ H nl = some (.lst (ns.map V.str)) ∧ nl ≠ l ∧ ns.Nodup ∧ (∀ z ∈ ns, GoodN z ∧ PyData.strOk z = true) ∧ 2 ≤ ns.length ∧ ns.length ≤ 20 ∧ most ≤ 60 ∧ 1 ≤ top ∧ top ≤ 1000 ∧
  ∀ (p : Addr) (qs : List (Row Str)) (H' : Hp), GoodQ qs → (names qs).Perm ns → (∀ r ∈ qs, r.2.2.length ≤ most ∧ r.2.1 ≤ (top : Int) + 2 ∧ ∀ x ∈ r.2.2, x.2 ≤ (top : Int)) → QH H' p qs → Dr a l c (N + 400) H' → ExD a l H H' → Q (.ref p) H'
section
variable {P : Program} {w : World} {K : PySem.W.Frag} {mg : Str → Option Value} {base : Heap} {f : Addr} {fd : FuncData} {aK : Addr} {tk : Tk}
theorem ok__law_lists (F : Fun K "_law_lists" "_law_lists" s__law_lists f fd) (T : Tx K mg aK tk) (c__law_take : Cal P w K mg base CX0 2 "_law_take" ["draw", "many"] spTake) (c__law_pick : Cal P w K mg base CX0 3 "_law_pick" ["draw", "some"] spPick) (c__law_shuffled : Cal P w K mg base CX0 3 "_law_shuffled" ["draw", "some"] spShuf) :
    FnOk P w K mg base CX0 4 f fd ["draw", "names", "most", "top"] spLists := by
  refine F.ok sc__law_lists (fun vs H Q E h => ?_) (fun cdv A outer s H vs Q E hr h => ?_)
  · obtain ⟨a, l, c, N, nl, ns, most, top, rfl, _⟩ := h
    rfl
  · obtain ⟨a, l, c, N, nl, ns, most, top, rfl, hD, hN, hnl, nnl, nd, hgood, n2, n20, m60, t1, t1000, q⟩ := h
    have hu := hu_of hr
    refine ⟨_, (pss_cons (ps_asg (pe_tup (pa_cons (pe_callTy (crDictL (K := K) rfl rfl) (by rfl) T.dict (by decide +kernel) (pa_cons (pe_lc (own := [("name", 6)]) rfl sc__law_lists.nd (piLst (K := K) rfl (pv 1)) (blkOk_by (own := [("name", 6)]) (N := N__law_lists) (sc := defScope s__law_lists) (by decide +kernel)) (fun _ _ _ _ _ => (pg_name (i := 6) sc__law_lists.nd rfl (Or.inl rfl))) (fun _ _ _ _ _ => pts_nil) (fun _ _ _ _ _ => (pe_tup (pa_cons (pv 6) (pa_cons (pe_lst pa_nil) pa_nil))))) pa_nil)) (pa_cons (pe_callTy (crDictL (K := K) rfl rfl) (by rfl) T.dict (by decide +kernel) (pa_cons (pe_lc (own := [("name", 6)]) rfl sc__law_lists.nd (piLst (K := K) rfl (pv 1)) (blkOk_by (own := [("name", 6)]) (N := N__law_lists) (sc := defScope s__law_lists) (by decide +kernel)) (fun _ _ _ _ _ => (pg_name (i := 6) sc__law_lists.nd rfl (Or.inl rfl))) (fun _ _ _ _ _ => pts_nil) (fun _ _ _ _ _ => (pe_tup (pa_cons (pv 6) (pa_cons (pe_cl c__law_pick hr (by decide) (by rfl) (pa_cons (pv 0) (pa_cons (pe_lst (pa_cons pe_int (pa_cons pe_int (pa_cons pe_int (pa_cons pe_int (pa_cons (pv 3) pa_nil)))))) pa_nil))) pa_nil))))) pa_nil)) pa_nil))) (pgTup (K := K) (n := 2) rfl rfl (pgs_cons (pg_name (i := 4) sc__law_lists.nd rfl (Or.inr rfl)) (pgs_cons (pg_name (i := 5) sc__law_lists.nd rfl (Or.inr rfl)) pgs_nil))))
      (pss_cons (ps_for PassesOwn.never rfl (pi_range1 (by rfl) T.range (pa_cons (pe_op op_add pe_int (pe_cl c__law_take hr (by decide) (by rfl) (pa_cons (pv 0) (pa_cons pe_int pa_nil)))) pa_nil)) (pg_name (i := 7) sc__law_lists.nd rfl (Or.inl rfl))
        (pss_cons (ps_set (i := 8) sc__law_lists.nd rfl (Or.inl rfl) (pe_slice (slL (K := K) rfl) (pe_cl c__law_shuffled hr (by decide) (by rfl) (pa_cons (pv 0) (pa_cons (pe_callTy (crList (K := K) rfl) (by rfl) T.list (by decide +kernel) (pa_cons (pv 1) pa_nil)) pa_nil))) po_none (po_some (pe_op op_add pe_int (pe_cl c__law_take hr (by decide) (by rfl) (pa_cons (pv 0) (pa_cons (pe_op op_sub (pe_callB (crLen (K := K) rfl) (by rfl) T.len (by decide +kernel) (pa_cons (pv 1) pa_nil)) pe_int) pa_nil)))))))
      (pss_cons (ps_par (i := 9) (j := 10) (by rfl) sc__law_lists.nd rfl rfl (by decide) rfl rfl (pa_cons (pe_op op_add pe_int (pe_cl c__law_take hr (by decide) (by rfl) (pa_cons (pv 0) (pa_cons (pv 3) pa_nil)))) (pa_cons (pe_cmpR op_gt (pe_cl c__law_take hr (by decide) (by rfl) (pa_cons (pv 0) (pa_cons pe_int pa_nil))) pe_int (nomark _)) pa_nil)) (by rfl))
      (pss_one (ps_for PassesOwn.never rfl (pi_range1 (by rfl) T.range (pa_cons (pe_callB (crLen (K := K) rfl) (by rfl) T.len (by decide +kernel) (pa_cons (pv 8) pa_nil)) pa_nil)) (pg_name (i := 11) sc__law_lists.nd rfl (Or.inl rfl))
        (pss_one (ps_if (pt_cmpR op_lt (pe_callB (crLen (K := K) rfl) (by rfl) T.len (by decide +kernel) (pa_cons (pe_dget hu (pv 4) (pe_ix (ixL (K := K) rfl) (pv 8) (pe_op op_sub (pv 11) pe_int) (fun _ _ => rfl)) (fun _ _ => rfl)) pa_nil)) (pv 2) (nomark _))
        (pss_one (ps_expr (pe_bm PySem.F.plainAttrs_list PySem.F.slot_list_append PySem.F.type_list_append mt_append (pe_dget hu (pv 4) (pe_ix (ixL (K := K) rfl) (pv 8) (pe_op op_sub (pv 11) pe_int) (fun _ _ => rfl)) (fun _ _ => rfl)) (pa_cons (pe_tup (pa_cons (pe_ix (ixL (K := K) rfl) (pv 8) (pv 11) (fun _ _ => rfl)) (pa_cons (pe_ifExp (pt_val (pv 10)) (pv 9) (pe_op op_add pe_int (pe_cl c__law_take hr (by decide) (by rfl) (pa_cons (pv 0) (pa_cons (pv 3) pa_nil))))) pa_nil))) pa_nil))))
        pss_nil)))))))
      (pss_cons (ps_for PassesOwn.never rfl (pi_range1 (by rfl) T.range (pa_cons (pe_cl c__law_take hr (by decide) (by rfl) (pa_cons (pv 0) (pa_cons pe_int pa_nil))) pa_nil)) (pg_name (i := 7) sc__law_lists.nd rfl (Or.inl rfl))
        (pss_cons (ps_asg (pe_slice (slL (K := K) rfl) (pe_cl c__law_shuffled hr (by decide) (by rfl) (pa_cons (pv 0) (pa_cons (pe_callTy (crList (K := K) rfl) (by rfl) T.list (by decide +kernel) (pa_cons (pv 1) pa_nil)) pa_nil))) po_none (po_some pe_int)) (pg_unl rfl (pgs_cons (pg_name (i := 12) sc__law_lists.nd rfl (Or.inl rfl)) (pgs_cons (pg_name (i := 13) sc__law_lists.nd rfl (Or.inl rfl)) pgs_nil))))
      (pss_one (ps_if (pt_cmpR op_lt (pe_callB (crLen (K := K) rfl) (by rfl) T.len (by decide +kernel) (pa_cons (pe_dget hu (pv 4) (pv 12) (fun _ _ => rfl)) pa_nil)) (pv 2) (nomark _))
        (pss_one (ps_expr (pe_bm PySem.F.plainAttrs_list PySem.F.slot_list_append PySem.F.type_list_append mt_append (pe_dget hu (pv 4) (pv 12) (fun _ _ => rfl)) (pa_cons (pe_tup (pa_cons (pv 13) (pa_cons (pe_op op_add pe_int (pe_cl c__law_take hr (by decide) (by rfl) (pa_cons (pv 0) (pa_cons (pv 3) pa_nil)))) pa_nil))) pa_nil))))
        pss_nil))))
      (pss_one (ps_ret (pe_tup (pa_cons pe_str (pa_cons (pe_callTy (crTup (K := K) rfl) (by rfl) T.tuple (by decide +kernel) (pa_cons (pe_lc (own := [("name", 6)]) rfl sc__law_lists.nd (piLst (K := K) rfl (pe_callB (crSortS (K := K) rfl) (by rfl) T.sorted (by decide +kernel) (pa_cons (pv 1) pa_nil))) (blkOk_by (own := [("name", 6)]) (N := N__law_lists) (sc := defScope s__law_lists) (by decide +kernel)) (fun _ _ _ _ _ => (pg_name (i := 6) sc__law_lists.nd rfl (Or.inl rfl))) (fun _ _ _ _ _ => pts_nil) (fun _ _ _ _ _ => (pe_tup (pa_cons (pv 6) (pa_cons (pe_dget hu (pv 5) (pv 6) (fun _ _ => rfl)) (pa_cons (pe_callTy (crTup (K := K) rfl) (by rfl) T.tuple (by decide +kernel) (pa_cons (pe_dget hu (pv 4) (pv 6) (fun _ _ => rfl)) pa_nil)) pa_nil)))))) pa_nil)) pa_nil)))))))), ?_⟩
    obtain ⟨kv0, lg0, cs0, rest0, turn0, k1, _, _, _, _, _, k7, _⟩ := hD.ex
    have nna : nl ≠ a := ne_of hnl k1 (by intro z; cases z)
    have nsl : (ns.map V.str).length = ns.length := List.length_map ..
    -- payments
    refine ⟨.ref nl, rfl, nl, rfl, ⟨_, sq_of hnl⟩, fun D1 hD1 => ?_⟩
    refine lc_list (xs := ns.map V.str) (fun i H' => ∃ (ps qs : List Addr), ps.length = i ∧ qs.length = i ∧ Ex H H' ∧ H' D1 = some (.lst (ps.map V.ref)) ∧ qs.Nodup ∧ ∀ (j : Nat) p q n, ps[j]? = some p → qs[j]? = some q → ns[j]? = some n → H' p = some (.tup [.str n, .ref q]) ∧ H' q = some (.lst []) ∧ H q = none ∧ q ≠ D1)
      ⟨[], [], rfl, rfl, Ex.new hD1, upd_same, List.nodup_nil, fun j p q n h => by simp at h⟩ (fun i H' _ p => ?_) (fun i x H' hx p => ?_) (fun H2 p => ?_)
    · obtain ⟨_, _, _, _, e, _⟩ := p
      exact sq_of (e _ _ hnl)
    · obtain ⟨ps, qs, hps, hqs, eH, hDl, hqn, hall⟩ := p
      obtain ⟨n, hn, rfl⟩ := map_at hx
      have hi := (List.getElem?_eq_some_iff.mp hn).1
      refine ⟨rfl, et_yes (σ := [some (.ref a), some (.ref nl), some (.int (most : Nat)), some (.int (top : Nat)), none, none, some (.str n), none, none, none, none, none, none, none]) (H := H') H' (Ex.refl _) _ fun H3 e3 => ?_⟩
      rw [if_pos rfl]
      refine ⟨.str n, rfl, Nat.zero_le _, fun q0 hq0 => ⟨by show 2 ≤ sizeLine; decide, fun p0 hp0 => ?_⟩⟩
      have x4 : Ex H3 (upd H3 q0 (.lst [])) := Ex.new hq0
      have x5 := x4.trans (Ex.new (o := .tup [.str n, .ref q0]) hp0)
      have hq5 : (upd (upd H3 q0 (.lst [])) p0 (.tup [.str n, .ref q0])) q0 = some (.lst []) := by
        rw [upd_ne (ne_of_none (upd_same (H := H3) (a := q0) (o := .lst [])) hp0)]
        exact upd_same
      have hp5 : (upd (upd H3 q0 (.lst [])) p0 (.tup [.str n, .ref q0])) p0 = some (.tup [.str n, .ref q0]) := upd_same
      generalize upd (upd H3 q0 (.lst [])) p0 (.tup [.str n, .ref q0]) = H5 at x5 hq5 hp5
      have hD5 := (e3.trans x5) _ _ hDl
      have nqD : q0 ≠ D1 := fun z => by
        rw [z, e3 _ _ hDl] at hq0
        cases hq0
      have nqn : q0 ∉ qs := fun hm => by
        obtain ⟨j, hj⟩ := List.mem_iff_getElem?.mp hm
        have hjl := (List.getElem?_eq_some_iff.mp hj).1
        obtain ⟨pj, hpj⟩ := get_of (l := ps) (i := j) rfl (by omega)
        obtain ⟨nj, hnj⟩ := get_of (l := ns) (i := j) rfl (by omega)
        have := (hall j pj q0 nj hpj hj hnj).2.1
        rw [e3 _ _ this] at hq0
        cases hq0
      refine ⟨_, hD5, sz_lt (by rw [List.length_map]; omega), ps ++ [p0], qs ++ [q0], by rw [List.length_append, hps]; rfl, by rw [List.length_append, hqs]; rfl, Ex.mut (eH.trans (e3.trans x5)) hD1, by rw [upd_same, List.map_append]; rfl, ?_, fun j pj qj nj hpj hqj hnj => ?_⟩
      · rw [List.nodup_append]
        exact ⟨hqn, by simp, fun u hu v hv => by
          rw [List.mem_singleton.mp hv]
          exact fun z => nqn (z ▸ hu)⟩
      · rcases snoc_at hps hpj with ⟨hj, hpj⟩ | ⟨rfl, rfl⟩
        · rcases snoc_at hqs hqj with ⟨_, hqj⟩ | ⟨hj2, _⟩
          · obtain ⟨g1, g2, g3, g4⟩ := hall j pj qj nj hpj hqj hnj
            have g1' := (e3.trans x5) _ _ g1
            refine ⟨?_, ?_, g3, g4⟩
            · rw [upd_ne (ne_of g1' hD5 (by intro z; cases z))]
              exact g1'
            · rw [upd_ne g4]
              exact (e3.trans x5) _ _ g2
          · omega
        · rcases snoc_at hqs hqj with ⟨hj2, _⟩ | ⟨_, rfl⟩
          · omega
          · rw [hn] at hnj
            cases hnj
            refine ⟨?_, ?_, fresh_back (eH.trans e3) hq0, nqD⟩
            · rw [upd_ne (ne_of hp5 hD5 (by intro z; cases z))]
              exact hp5
            · rw [upd_ne nqD]
              exact hq5
    obtain ⟨ps, qs, hps, hqs, eH, hDl, hqn, hall⟩ := p
    rw [nsl] at hps hqs
    -- the dict
    let ff : Str → Addr := fun n => qs.getD (ns.idxOf n) 0
    have hff : ∀ (j : Nat) n, ns[j]? = some n → qs[j]? = some (ff n) := fun j n h => by
      have hj := (List.getElem?_eq_some_iff.mp h).1
      obtain ⟨q0, hq0⟩ := get_of (l := qs) (i := j) hqs hj
      show qs[j]? = some (qs.getD (ns.idxOf n) 0)
      rw [idx_at nd h, getD_of hq0, hq0]
    refine ⟨D1, ps, ns.map fun n => ((Sum.inr n : Key), V.ref (ff n)), rfl, sq_of hDl, paired_of (by rw [List.length_map, hps]) fun j p kv hp hkv => ?_, fun d hd0 => ?_⟩
    · obtain ⟨n, hn, rfl⟩ := map_at hkv
      exact st_of (hall j p (ff n) n hp (hff j n hn) hn).1
    have knd : ((ns.map fun n => ((Sum.inr n : Key), V.ref (ff n))).map (·.1)).Nodup := by
      rw [List.map_map]
      exact List.pairwise_map.mpr (nd.imp fun h z => h (Sum.inr.inj z))
    have P0 : Pays a l c H (upd H2 d (.dK (mergeK [] (ns.map fun n => ((Sum.inr n : Key), V.ref (ff n)))))) d ns (mergeK [] (ns.map fun n => ((Sum.inr n : Key), V.ref (ff n)))) ff (fun _ => []) := by
      have nd0 := (hD.mono eH).fresh hd0
      refine ⟨upd_same, fun n hn => ?_, fun n hn m hm e => ?_, fun n hn => ?_, ⟨nd0.1, nd0.2.1⟩, fun n hn => ?_⟩
      · obtain ⟨j, hj⟩ := List.mem_iff_getElem?.mp hn
        exact valV_merge_get (i := j) knd (by rw [List.getElem?_map, hj]; rfl)
      · obtain ⟨j, hj⟩ := List.mem_iff_getElem?.mp hn
        obtain ⟨i, hi⟩ := List.mem_iff_getElem?.mp hm
        have a1 := hff j n hj
        have a2 := hff i m hi
        rw [e, ← a2] at a1
        have hjl := (List.getElem?_eq_some_iff.mp hj).1
        have := (List.getElem?_inj (by rw [hqs]; exact hjl) hqn).mp a1
        rw [this, hi] at hj
        exact (Option.some.inj hj).symm
      · obtain ⟨j, hj⟩ := List.mem_iff_getElem?.mp hn
        have hjl := (List.getElem?_eq_some_iff.mp hj).1
        obtain ⟨p0, hp0⟩ := get_of (l := ps) (i := j) hps hjl
        have h3 := (hall j p0 _ n hp0 (hff j n hj) hj).2.2.1
        exact ⟨h3, hD.fresh h3⟩
      · obtain ⟨j, hj⟩ := List.mem_iff_getElem?.mp hn
        have hjl := (List.getElem?_eq_some_iff.mp hj).1
        obtain ⟨p0, hp0⟩ := get_of (l := ps) (i := j) hps hjl
        have h2 := (hall j p0 _ n hp0 (hff j n hj) hj).2.1
        exact ⟨[], by rw [upd_ne (ne_of_none h2 hd0)]; exact h2, .nil⟩
    have e03 : Ex H (upd H2 d (.dK (mergeK [] (ns.map fun n => ((Sum.inr n : Key), V.ref (ff n)))))) := eH.trans (Ex.new hd0)
    generalize mergeK [] (ns.map fun n => ((Sum.inr n : Key), V.ref (ff n))) = kvs at P0 e03
    generalize upd H2 d (.dK kvs) = H3 at P0 e03
    have d3 := hD.mono e03
    clear hall hDl eH hps hqs hqn knd hff hd0
    clear_value ff
    -- cash
    refine ⟨.ref nl, rfl, nl, rfl, ⟨_, sq_of (e03 _ _ hnl)⟩, fun D2 hD2 => ?_⟩
    have nD2 := d3.fresh hD2
    refine lc_list (xs := ns.map V.str) (fun i H' => ∃ (ps : List Addr) (cs : List Int), ps.length = i ∧ cs.length = i ∧ ExD a l H3 H' ∧ Dr a l c (N + i) H' ∧ H' D2 = some (.lst (ps.map V.ref)) ∧ (∀ z ∈ cs, 0 ≤ z ∧ z ≤ (top : Int) + 2) ∧ ∀ (j : Nat) p z n, ps[j]? = some p → cs[j]? = some z → ns[j]? = some n → H' p = some (.tup [.str n, .int z]))
      ⟨[], [], rfl, rfl, ExD.of (Ex.new hD2), d3.upd nD2, upd_same, fun z h => (by cases h), fun j p q n h => by simp at h⟩ (fun i H' _ p => ?_) (fun i x H' hx p => ?_) (fun H4 p => ?_)
    · obtain ⟨_, _, _, _, e, _⟩ := p
      exact sq_of (e _ _ (e03 _ _ hnl) nna nnl)
    · obtain ⟨ps, cs, hps, hcs, eH, dH, hDl, hcz, hall⟩ := p
      obtain ⟨n, hn, rfl⟩ := map_at hx
      have hi := (List.getElem?_eq_some_iff.mp hn).1
      refine ⟨rfl, et_yes (σ := [some (.ref a), some (.ref nl), some (.int (most : Nat)), some (.int (top : Nat)), none, none, some (.str n), none, none, none, none, none, none, none]) (H := H') H' (Ex.refl _) _ fun H5 e5 => ?_⟩
      rw [if_pos rfl]
      refine ⟨.str n, rfl, ?_⟩
      refine do_pickL (a := a) rfl (el_lst (ea_cons (ev_c (v := .int 0)) (ea_cons (ev_c (v := .int 0)) (ea_cons (ev_c (v := .int 1)) (ea_cons (ev_c (v := .int 2)) (ea_cons (ev_var (i := 3) rfl) ea_nil))))) (by show 5 ≤ 100000; omega)) (dH.mono e5) (by omega) (by show 0 < 5; omega) (by show 5 < 100000; omega) fun vz H6 hz d6 e6 => ?_
      obtain ⟨z, rfl, z0, z1⟩ : ∃ z : Int, vz = .int z ∧ 0 ≤ z ∧ z ≤ (top : Int) + 2 := by
        simp only [List.mem_cons, List.not_mem_nil, or_false] at hz
        rcases hz with rfl | rfl | rfl | rfl | rfl <;> exact ⟨_, rfl, by omega, by omega⟩
      refine ⟨by show 2 ≤ sizeLine; decide, fun p0 hp0 => ?_⟩
      have x6 : ExD a l H' (upd H6 p0 (.tup [.str n, .int z])) := ((ExD.of e5).trans e6).trans (ExD.of (Ex.new hp0))
      have d7 := d6.upd (p := p0) (o := .tup [.str n, .int z]) (d6.fresh hp0)
      have hp7 : (upd H6 p0 (.tup [.str n, .int z])) p0 = some (.tup [.str n, .int z]) := upd_same
      generalize upd H6 p0 (.tup [.str n, .int z]) = H7 at x6 d7 hp7
      have hD7 := x6 _ _ hDl nD2.1 nD2.2.1
      refine ⟨_, hD7, sz_lt (by rw [List.length_map]; omega), ps ++ [p0], cs ++ [z], by rw [List.length_append, hps]; rfl, by rw [List.length_append, hcs]; rfl, (eH.trans x6).mut hD2, d7.upd nD2, by rw [upd_same, List.map_append]; rfl, fun u hu => ?_, fun j pj zj nj hpj hqj hnj => ?_⟩
      · rcases List.mem_append.mp hu with h | h
        · exact hcz u h
        · rw [List.mem_singleton.mp h]
          exact ⟨z0, z1⟩
      · rcases snoc_at hps hpj with ⟨hj, hpj⟩ | ⟨rfl, rfl⟩
        · rcases snoc_at hcs hqj with ⟨_, hqj⟩ | ⟨hj2, _⟩
          · have g1 := dH.tx x6 _ _ (hall j pj zj nj hpj hqj hnj)
            rw [upd_ne (ne_of g1 hD7 (by intro z; cases z))]
            exact g1
          · omega
        · rcases snoc_at hcs hqj with ⟨hj2, _⟩ | ⟨_, rfl⟩
          · omega
          · rw [hn] at hnj
            cases hnj
            rw [upd_ne (ne_of hp7 hD7 (by intro z; cases z))]
            exact hp7
    obtain ⟨ps, cs, hps, hcs, eH, d4, hDl, hcz, hall⟩ := p
    rw [nsl] at hps hcs d4
    have P4 := P0.exD d3 eH
    have e04 : ExD a l H H4 := (ExD.of e03).trans eH
    let CC : Str → Int := fun n => cs.getD (ns.idxOf n) 0
    have hCC : ∀ (j : Nat) n, ns[j]? = some n → cs[j]? = some (CC n) := fun j n h => by
      have hj := (List.getElem?_eq_some_iff.mp h).1
      obtain ⟨q0, hq0⟩ := get_of (l := cs) (i := j) hcs hj
      show cs[j]? = some (cs.getD (ns.idxOf n) 0)
      rw [idx_at nd h, getD_of hq0, hq0]
    refine ⟨D2, ps, ns.map fun n => ((Sum.inr n : Key), V.int (CC n)), rfl, sq_of hDl, paired_of (by rw [List.length_map, hps]) fun j p kv hp hkv => ?_, fun d2 hd20 => ?_⟩
    · obtain ⟨n, hn, rfl⟩ := map_at hkv
      exact st_of (hall j p (CC n) n hp (hCC j n hn) hn)
    have knd : ((ns.map fun n => ((Sum.inr n : Key), V.int (CC n))).map (·.1)).Nodup := by
      rw [List.map_map]
      exact List.pairwise_map.mpr (nd.imp fun h z => h (Sum.inr.inj z))
    have hC0 : ∀ n ∈ ns, 0 ≤ CC n ∧ CC n ≤ (top : Int) + 2 := fun n hn => by
      obtain ⟨j, hj⟩ := List.mem_iff_getElem?.mp hn
      exact hcz _ (List.mem_of_getElem? (hCC j n hj))
    have hcv : ∀ n ∈ ns, valV (mergeK [] (ns.map fun n => ((Sum.inr n : Key), V.int (CC n)))) (Sum.inr n) = some (.int (CC n)) := fun n hn => by
      obtain ⟨j, hj⟩ := List.mem_iff_getElem?.mp hn
      exact valV_merge_get (i := j) knd (by rw [List.getElem?_map, hj]; rfl)
    generalize mergeK [] (ns.map fun n => ((Sum.inr n : Key), V.int (CC n))) = kvc at hcv
    have nd2 := d4.fresh hd20
    have e5' : Ex H4 (upd H4 d2 (.dK kvc)) := Ex.new hd20
    have hd25 : (upd H4 d2 (.dK kvc)) d2 = some (.dK kvc) := upd_same
    generalize upd H4 d2 (.dK kvc) = H5 at e5' hd25
    refine ⟨by show 2 ≤ sizeLine; decide, fun tp htp => ?_⟩
    refine g_tup2 (x := .ref d) (y := .ref d2) upd_same ?_
    have e56 := e5'.trans (Ex.new (o := .tup [.ref d, .ref d2]) htp)
    have hd26 : (upd H5 tp (.tup [.ref d, .ref d2])) d2 = some (.dK kvc) := by
      rw [upd_ne (ne_of_none hd25 htp)]
      exact hd25
    generalize upd H5 tp (.tup [.ref d, .ref d2]) = H6 at e56 hd26
    have P6 := P4.ex e56
    have d6 := d4.mono e56
    have e06 := e04.trans (ExD.of e56)
    clear P4 d4 e04 eH hDl hcz hall hCC knd hcs hps hd25 e5' e56 P0 d3 e03
    clear_value CC
    -- what holds all along
    let IN : Nat → Hp → Prop := fun M H' => ∃ F, OkF ns most (top : Int) F ∧ Pays a l c H H' d ns kvs ff F ∧ Dr a l c M H' ∧ ExD a l H H' ∧ H' d2 = some (.dK kvc)
    have nd2f : ∀ n ∈ ns, d2 ≠ ff n := fun n hn z => by
      obtain ⟨ps0, h0, _⟩ := P6.pl n hn
      rw [← z, hd26] at h0
      cases h0
    have hin6 : IN (N + 20) H6 := ⟨fun _ => [], ⟨fun n _ => Nat.zero_le _, fun n _ x hx => by cases hx⟩, P6, d6.up (by omega), e06, hd26⟩
    have INex : ∀ {M M' H' H''}, IN M H' → M ≤ M' → Ex H' H'' → IN M' H'' := fun {M M' H' H''} h hm e => by
      obtain ⟨F, g1, g2, g3, g4, g5⟩ := h
      exact ⟨F, g1, g2.ex e, (g3.mono e).up hm, g4.trans (ExD.of e), e _ _ g5⟩
    clear P6 d6 e06 hd26
    have hst : ((List.set (L2.start N__law_lists [V.ref a, V.ref nl, V.int (most : Nat), V.int (top : Nat)]) 4 (some (V.ref d))).set 5 (some (V.ref d2))) = [some (.ref a), some (.ref nl), some (.int (most : Nat)), some (.int (top : Nat)), some (.ref d), some (.ref d2), none, none, none, none, none, none, none, none] := rfl
    rw [hst]
    dsimp only
    refine q_forRD 4 (by decide)
      (fun i σ' H' => ∃ (y7 y8 y9 y10 y11 : Option V), σ' = [some (.ref a), some (.ref nl), some (.int (most : Nat)), some (.int (top : Nat)), some (.ref d), some (.ref d2), none, y7, y8, y9, y10, y11, none, none] ∧ IN (N + 21 + 50 * i) H') (fun R hR => ?_) (fun i σ' H' hi hP => ?_) (fun n σ' H' hn hP => ?_)
    · obtain ⟨F, g1, g2, g3, g4, g5⟩ := hin6
      refine do_take (H := H6) (size := 4) (ea_cons (ev_var rfl) (ea_cons ev_c ea_nil)) g3 (by omega) (by decide) (by decide) (Ex.refl _) fun v H7 v0 v1 d7 e7 => ?_
      obtain ⟨m, rfl⟩ := Int.eq_ofNat_of_zero_le v0
      refine ⟨1, (m : Int), rfl, rfl, ?_⟩
      show R [V.int ((1 : Int) + (m : Int))] H7
      rw [show (1 : Int) + (m : Int) = ((m + 1 : Nat) : Int) by omega]
      exact hR (m + 1) H7 (by omega) ⟨none, none, none, none, none, rfl, F, g1, g2.exD g3 e7, d7, g4.trans e7, e7 _ _ g5 nd2.1 nd2.2.1⟩
    · -- a ring
      obtain ⟨y7, y8, y9, y10, y11, rfl, F, g1, g2, g3, g4, g5⟩ := hP
      have hnl' := g4 _ _ hnl nna nnl
      refine do_shufCut (K := K) (a := a) (l := l) (c := c) (N := N + 21 + 50 * i) (M := N + 21 + 50 * i + 21) (ns := ns) (nl := nl) (σ := [some (.ref a), some (.ref nl), some (.int (most : Nat)), some (.int (top : Nat)), some (.ref d), some (.ref d2), none, some (.int (i : Int)), y8, y9, y10, y11, none, none]) (H := H') rfl rfl hnl' g3 (by omega) n20 (fun z hz => (hgood z hz).2) (fun m => 2 ≤ m) (fun H7 R d7 e7 hR => ?_) fun sm zs m H8 hsm0 hsm hm2 hzl hznd hzin d8 e8 => ?_
      · refine do_take (H := H7) (size := (ns.length : Int) - 1) (ea_cons (ev_var rfl) (ea_cons (ev_sub (ev_is (ev_len (K := K) (xs := ns.map V.str) (ev_var (i := 1) rfl) (sq_of (e7 _ _ hnl' nna nnl))) (by rw [nsl])) ev_c) ea_nil)) d7 (by omega) (by omega) (by omega) (Ex.refl _) fun v H9 v0 v1 d9 e9 => ?_
        obtain ⟨m, rfl⟩ := Int.eq_ofNat_of_zero_le v0
        refine ⟨2, (m : Int), rfl, rfl, ⟨(2 : Int) + (m : Int), rfl, ?_⟩⟩
        rw [show (2 : Int) + (m : Int) = ((2 + m : Nat) : Int) by omega]
        exact hR (2 + m) H9 (by omega) (d9.up (by omega)) e9
      have hz2' : 2 ≤ zs.length := by omega
      have hz20 : zs.length ≤ 20 := by omega
      have hznd := hznd nd
      have nsm := g3.fresh hsm0
      have nsmf : ∀ n ∈ ns, sm ≠ ff n := fun n hn z => by
        obtain ⟨ps0, h0, _⟩ := g2.pl n hn
        rw [← z, hsm0] at h0
        cases h0
      have nsmd : sm ≠ d2 := fun z => by
        rw [← z, hsm0] at g5
        cases g5
      have g2 := g2.exD g3 e8
      have g4 := g4.trans e8
      have g5 := e8 _ _ g5 nd2.1 nd2.2.1
      -- amount, is_even
      refine do_take (H := H8) (size := (top : Int)) (ea_cons (ev_var rfl) (ea_cons (ev_var (i := 3) rfl) ea_nil)) d8 (by omega) (by omega) (by omega) (Ex.refl _) fun am H9 a0 a1 d9 e9 => ?_
      refine ⟨1, am, rfl, rfl, ?_⟩
      refine do_take (H := H9) (size := 3) (ea_cons (ev_var rfl) (ea_cons ev_c ea_nil)) d9 (by omega) (by decide) (by decide) (Ex.refl _) fun evI H10 _ _ d10 e10 => ?_
      refine ⟨evI, 0, rfl, rfl, ⟨_, _, rfl, ?_⟩⟩
      have e810 := e9.trans e10
      have hsm10 := e810 _ _ hsm nsm.1 nsm.2.1
      dsimp only
      generalize decide ((0 : Int) < evI) = isE
      refine s_forR1 (n := (zs.length : Int)) (σ := [some (.ref a), some (.ref nl), some (.int (most : Nat)), some (.int (top : Nat)), some (.ref d), some (.ref d2), none, some (.int (i : Int)), some (.ref sm), some (.int (1 + am)), some (.bl isE), y11, none, none]) (ea_cons (ev_is (ev_len (K := K) (xs := zs.map V.str) (ev_var (i := 8) rfl) (sq_of hsm10)) (by rw [List.length_map])) ea_nil) (by omega)
        (fun j σ' H' => ∃ y11 : Option V, σ' = [some (.ref a), some (.ref nl), some (.int (most : Nat)), some (.int (top : Nat)), some (.ref d), some (.ref d2), none, some (.int (i : Int)), some (.ref sm), some (.int (1 + am)), some (.bl isE), y11, none, none] ∧ IN (N + 21 + 50 * i + 23 + j) H' ∧ H' sm = some (.lst (zs.map V.str)))
        (fun H11 e11 => ⟨y11, rfl, INex ⟨F, g1, g2.exD d8 e810, d10.up (by omega), g4.trans e810, e810 _ _ g5 nd2.1 nd2.2.1⟩ (Nat.le_refl _) e11, e11 _ _ hsm10⟩) (fun j σ' H11 hj hP => ?_) (fun σ' H11 hP => ?_)
      · obtain ⟨y11, rfl, ⟨F, g1, g2, g3, g4, g5⟩, hsm11⟩ := hP
        have hj' : j < zs.length := by omega
        obtain ⟨jp, one, hone, hjp, hprev⟩ := at_prev hj'
        obtain ⟨o, ho⟩ := get_of (l := zs) (i := j) rfl hj'
        have hne : o ≠ one := fun z => by
          rw [z, ← hone] at ho
          have := (List.getElem?_inj hj' hznd).mp ho
          omega
        refine s_payIf (K := K) (one := one) (o := o) (σ := [some (.ref a), some (.ref nl), some (.int (most : Nat)), some (.int (top : Nat)), some (.ref d), some (.ref d2), none, some (.int (i : Int)), some (.ref sm), some (.int (1 + am)), some (.bl isE), some (.int (j : Int)), none, none]) rfl rfl g2 g1 m60 g3 g4 (hzin one (List.mem_of_getElem? hone))
          (ev_op (ev_var (i := 8) rfl) (ev_sub (ev_var (i := 11) rfl) ev_c) (rv_ixL (sq_of hsm11) hprev)) (ev_op (ev_var (i := 8) rfl) (ev_var (i := 11) rfl) (rv_ixL (sq_of hsm11) (at_of (j := j) rfl (by rw [List.getElem?_map, ho]; rfl)))) (hzin o (List.mem_of_getElem? ho)) hne
          (fun H12 e12 d12 Q' q' => ?_) fun F' H12 g1' g2' g3' g4' hrest => ?_
        · refine (et_B (ev_var (i := 10) rfl)) H12 (Ex.refl _) _ fun H13 e13 => ?_
          cases isE with
          | true =>
            rw [if_pos rfl]
            exact ⟨_, rfl, q' _ H13 (by omega) (by omega) ((d12.mono e13).up (by omega)) (ExD.of e13)⟩
          | false =>
            rw [if_neg Bool.false_ne_true]
            refine do_take (H := H13) (size := (top : Int)) (ea_cons (ev_var rfl) (ea_cons (ev_var (i := 3) rfl) ea_nil)) (d12.mono e13) (by omega) (by omega) (by omega) (Ex.refl _) fun am H14 a0 a1 d14 e14 => ?_
            exact ⟨1, am, rfl, rfl, q' _ H14 (by omega) (by omega) d14 ((ExD.of e13).trans e14)⟩
        · exact ⟨_, rfl, ⟨F', g1', g2', g3', g4', hrest _ _ g5 nd2.1 nd2.2.1 nd2f⟩, hrest _ _ hsm11 nsm.1 nsm.2.1 nsmf⟩
      · obtain ⟨y11, rfl, hin, _⟩ := hP
        rw [Int.toNat_natCast] at hin
        exact ⟨_, _, _, _, _, rfl, INex hin (by omega) (Ex.refl _)⟩
    · obtain ⟨y7, y8, y9, y10, y11, rfl, hin⟩ := hP
      have hin7 : IN (N + 221) H' := INex hin (by omega) (Ex.refl _)
      clear hin
      refine q_forRD 3 (by decide)
        (fun i σ' H' => ∃ (y7 y12 y13 : Option V), σ' = [some (.ref a), some (.ref nl), some (.int (most : Nat)), some (.int (top : Nat)), some (.ref d), some (.ref d2), none, y7, y8, y9, y10, y11, y12, y13] ∧ IN (N + 222 + 25 * i) H') (fun R hR => ?_) (fun i σ' H' hi hP => ?_) (fun n σ' H' hn hP => ?_)
      · obtain ⟨F, g1, g2, g3, g4, g5⟩ := hin7
        refine do_take (H := H') (size := 4) (ea_cons (ev_var rfl) (ea_cons ev_c ea_nil)) g3 (by omega) (by decide) (by decide) (Ex.refl _) fun v H7 v0 v1 d7 e7 => ?_
        obtain ⟨m, rfl⟩ := Int.eq_ofNat_of_zero_le v0
        exact hR m H7 (by omega) ⟨y7, none, none, rfl, F, g1, g2.exD g3 e7, d7, g4.trans e7, e7 _ _ g5 nd2.1 nd2.2.1⟩
      · obtain ⟨y7, y12, y13, rfl, F, g1, g2, g3, g4, g5⟩ := hP
        have hnl' := g4 _ _ hnl nna nnl
        refine do_shufCut (K := K) (a := a) (l := l) (c := c) (N := N + 222 + 25 * i) (M := N + 222 + 25 * i + 20) (ns := ns) (nl := nl) (σ := [some (.ref a), some (.ref nl), some (.int (most : Nat)), some (.int (top : Nat)), some (.ref d), some (.ref d2), none, some (.int (i : Int)), y8, y9, y10, y11, y12, y13]) (H := H') rfl rfl hnl' g3 (by omega) n20 (fun z hz => (hgood z hz).2) (fun m => m = 2) (fun H7 R d7 e7 hR => ⟨2, rfl, hR 2 H7 rfl (d7.up (by omega)) (ExD.refl _)⟩) fun sm zs m H8 hsm0 hsm hm2 hzl hznd hzin d8 e8 => ?_
        have hznd := hznd nd
        obtain ⟨one, o, rfl⟩ : ∃ x y, zs = [x, y] := by
          match zs, (show zs.length = 2 by omega) with
          | [x, y], _ => exact ⟨x, y, rfl⟩
        refine ⟨sm, [.str one, .str o], rfl, sq_of hsm, rfl, .str one, [.str o], rfl, .str o, [], rfl, rfl, ?_⟩
        have hne : o ≠ one := fun z => by
          rw [z] at hznd
          exact absurd hznd (by simp)
        have g2 := g2.exD g3 e8
        have g4 := g4.trans e8
        have g5 := e8 _ _ g5 nd2.1 nd2.2.1
        refine s_payIf (K := K) (one := one) (o := o) (σ := [some (.ref a), some (.ref nl), some (.int (most : Nat)), some (.int (top : Nat)), some (.ref d), some (.ref d2), none, some (.int (i : Int)), y8, y9, y10, y11, some (.str one), some (.str o)]) rfl rfl g2 g1 m60 d8 g4 (hzin one List.mem_cons_self)
          (ev_var (i := 12) rfl) (ev_var (i := 13) rfl) (hzin o (List.mem_cons_of_mem _ List.mem_cons_self)) hne
          (fun H12 e12 d12 Q' q' => ?_) fun F' H12 g1' g2' g3' g4' hrest => ?_
        · refine do_take (H := H12) (size := (top : Int)) (ea_cons (ev_var rfl) (ea_cons (ev_var (i := 3) rfl) ea_nil)) d12 (by omega) (by omega) (by omega) (Ex.refl _) fun am H14 a0 a1 d14 e14 => ?_
          exact ⟨1, am, rfl, rfl, q' _ H14 (by omega) (by omega) d14 e14⟩
        · exact ⟨_, _, _, rfl, INex ⟨F', g1', g2', g3', g4', hrest _ _ g5 nd2.1 nd2.2.1 nd2f⟩ (by omega) (Ex.refl _)⟩
      · obtain ⟨y7, y12, y13, rfl, F, g1, g2, g3, g4, g5⟩ := hP
        have hnl' := g4 _ _ hnl nna nnl
        -- sorted(names)
        refine ⟨.ref nl, rfl, nl, ns, rfl, sq_of hnl', by omega, fun ys sp hperm hsort hsp0 => ?_⟩
        have x1 : Ex H' (upd H' sp (.lst (ys.map V.str))) := Ex.new hsp0
        have hsp1 : (upd H' sp (.lst (ys.map V.str))) sp = some (.lst (ys.map V.str)) := upd_same
        generalize upd H' sp (.lst (ys.map V.str)) = H7 at x1 hsp1
        have hyl := hperm.length_eq
        have hasc := sorted_asc hsort (hperm.nodup_iff.mpr nd)
        have hyin : ∀ z ∈ ys, z ∈ ns := fun z hz => hperm.mem_iff.mp hz
        refine ⟨sp, rfl, ⟨_, sq_of hsp1⟩, ?_⟩
        have ysl : (ys.map V.str).length = ys.length := List.length_map ..
        have hrows : ∀ (j : Nat) n, ys[j]? = some n → (mkRows CC F ys)[j]? = some (n, CC n, F n) := fun j n h => by
          unfold mkRows
          rw [List.getElem?_map, h]
          rfl
        refine lc_G (σ := [some (.ref a), some (.ref nl), some (.int (most : Nat)), some (.int (top : Nat)), some (.ref d), some (.ref d2), none, y7, y8, y9, y10, y11, y12, y13]) (vs := [6]) (walk_list (K := K) (a := sp) (xs := ys.map V.str)) (fun H3 e3 => sq_of (e3 _ _ hsp1)) (by rw [ysl]; omega) (fun i v H => ∃ p, v = .ref p ∧ RowH H p ((mkRows CC F ys).getD i rowD)) (fun i v H1 H2 e ⟨p, hv, hp⟩ => ⟨p, hv, hp.tx e⟩) (fun i x H1 H2 e1 hi hy => ?_) fun rl rs H8 hrl0 e8 hrl hrows2 => ?_
        · obtain ⟨rfl, hx⟩ := hy
          obtain ⟨n, hn, rfl⟩ := map_at hx
          have hnin := hyin n (List.mem_of_getElem? hn)
          refine ⟨Ex.refl _, _, fun R h => h, rfl, et_yes, ?_⟩
          obtain ⟨ps, hpl, hpr⟩ := g2.pl n hnin
          intro H3 e3 Q' q'
          have e13 := x1.trans (e1.trans e3)
          refine ⟨.str n, rfl, ?_⟩
          refine ev_dget (σ := [some (.ref a), some (.ref nl), some (.int (most : Nat)), some (.int (top : Nat)), some (.ref d), some (.ref d2), some (.str n), y7, y8, y9, y10, y11, y12, y13]) (k := Sum.inr n) (ev_var (i := 5) rfl) (ev_var (i := 6) rfl) (e13 _ _ g5) (hcv n hnin) H3 (Ex.refl _) _ fun H4 e4 => ?_
          refine eu_tupQ (K := K) (σ := [some (.ref a), some (.ref nl), some (.int (most : Nat)), some (.int (top : Nat)), some (.ref d), some (.ref d2), some (.str n), y7, y8, y9, y10, y11, y12, y13]) (H := H4) (eql_ev (ev_dget (k := Sum.inr n) (ev_var (i := 4) rfl) (ev_var (i := 6) rfl) ((e13.trans e4) _ _ g2.hd) (g2.hv n hnin)) (sq_of ((e13.trans e4) _ _ hpl))) H4 (Ex.refl _) _ fun tq H5 htq0 e5 htq => ?_
          refine ⟨by show 3 ≤ sizeLine; decide, fun p hp => ?_⟩
          have e35 := e4.trans e5
          refine q' _ _ (e35.trans (Ex.new hp)) ⟨p, rfl, tq, ?_, ps, ?_, ?_⟩
          · rw [getD_of (hrows i n hn)]
            exact upd_same
          · rw [upd_ne (ne_of_none htq hp)]
            exact htq
          · rw [getD_of (hrows i n hn)]
            exact L2.Paired.mapP hpr fun _ _ z => z.tx (TX.of ((e13.trans e35).trans (Ex.new hp)))
        refine ⟨rl, _, rfl, Or.inl ⟨sq_of hrl, fun tl htl => ?_⟩⟩
        refine ⟨by show 2 ≤ sizeLine; decide, fun p hp => ?_⟩
        have e9 : Ex H8 (upd H8 tl (.tup rs)) := Ex.new htl
        have e10 := e9.trans (Ex.new (o := .tup [.str "queues", .ref tl]) hp)
        have e710 := x1.trans (e8.trans e10)
        rw [ysl] at hrows2
        obtain ⟨ps, rfl, hps⟩ : ∃ ps : List Addr, rs = ps.map V.ref ∧ Paired (RowH H8) ps (mkRows CC F ys) := by
          have hl := paired_len hrows2
          rw [List.length_range] at hl
          have gen : ∀ (is : List Nat) (rs : List V), Paired (fun i y => ∃ p, y = V.ref p ∧ RowH H8 p ((mkRows CC F ys).getD i rowD)) is rs → ∃ ps : List Addr, rs = ps.map V.ref ∧ Paired (RowH H8) ps (is.map fun i => (mkRows CC F ys).getD i rowD) := fun is rs h => by
            induction h with
            | nil => exact ⟨[], rfl, .nil⟩
            | cons h1 _ ih =>
              obtain ⟨p, e, hp⟩ := h1
              obtain ⟨ps, e2, h2⟩ := ih
              exact ⟨p :: ps, by rw [e, e2]; rfl, .cons hp h2⟩
          obtain ⟨ps, e, h2⟩ := gen _ _ hrows2
          refine ⟨ps, e, ?_⟩
          have hml : ys.length = (mkRows CC F ys).length := by
            unfold mkRows
            rw [List.length_map]
          rw [hml, map_range_getD rowD (fun x => x) (mkRows CC F ys), List.map_id'] at h2
          exact h2
        have hnm : names (mkRows CC F ys) = ys := by
          unfold mkRows
          show List.map _ (List.map _ ys) = ys
          rw [List.map_map]
          exact List.map_id' ys
        have hrm : ∀ r ∈ mkRows CC F ys, ∃ n ∈ ns, r = (n, CC n, F n) := fun r hr => by
          obtain ⟨n, hn, e⟩ := List.mem_map.mp hr
          exact ⟨n, hyin n hn, e.symm⟩
        have hrl' : (mkRows CC F ys).length = ns.length := by
          unfold mkRows
          rw [List.length_map, hyl]
        refine q p (mkRows CC F ys) _ ⟨by omega, by omega, by rw [hnm]; exact hasc, fun r hr => ?_, fun r hr => ?_, fun r hr => ?_, fun r hr => ?_⟩ (by rw [hnm]; exact hperm) (fun r hr => ?_) ⟨tl, upd_same, ps, ?_, L2.Paired.mapP hps fun _ _ z => z.tx (TX.of e10)⟩ ((g3.mono e710).up (by omega)) (g4.trans (ExD.of e710))
        · obtain ⟨n, hn, rfl⟩ := hrm r hr
          exact (hgood n hn).1
        · obtain ⟨n, hn, rfl⟩ := hrm r hr
          exact (hC0 n hn).1
        · obtain ⟨n, hn, rfl⟩ := hrm r hr
          have := (hC0 n hn).2
          show CC n ≤ 1000000
          omega
        · obtain ⟨n, hn, rfl⟩ := hrm r hr
          rw [hnm]
          refine ⟨?_, fun x hx => (g1.each n hn x hx).1, fun x hx => hperm.mem_iff.mpr (g1.each n hn x hx).2.1, fun x hx => (g1.each n hn x hx).2.2.1, fun x hx => ?_⟩
          · have := g1.len n hn
            show (F n).length ≤ 60
            omega
          · have := (g1.each n hn x hx).2.2.2
            omega
        · obtain ⟨n, hn, rfl⟩ := hrm r hr
          exact ⟨g1.len n hn, (hC0 n hn).2, fun x hx => (g1.each n hn x hx).2.2.2⟩
        · rw [upd_ne (ne_of_none (upd_same (H := H8) (a := tl) (o := .tup (ps.map V.ref))) hp)]
          exact upd_same
end
end NQ
namespace NQ
open PySem PySem.Spec PyProof.Rows L2 Evl
open KQ (Row held bump drop bump_same bump_ne drop_same drop_ne)
/-! ### queues as the law's own sums take them -/
/-! ### dicts of ints by the houses -/
def dI (qs : List (Row Str)) (g : Row Str → Int) : List (Key × V) := qs.map fun r => ((Sum.inr r.1 : Key), V.int (g r))
theorem valV_none {k : Key} : ∀ {kvs : List (Key × V)}, k ∉ kvs.map (·.1) → valV kvs k = none
  | [], _ => rfl
  | p :: r, h => by
    rw [valV_neg fun e => h (by rw [← e]; exact List.mem_cons_self)]
    exact valV_none fun z => h (List.mem_cons_of_mem _ z)
theorem valV_mem {k : Key} {v : V} : ∀ {kvs : List (Key × V)}, (kvs.map (·.1)).Nodup → (k, v) ∈ kvs → valV kvs k = some v
  | p :: r, nd, h => by
    obtain ⟨h1, h2⟩ := List.nodup_cons.mp nd
    rcases List.mem_cons.mp h with e | e
    · rw [valV_pos (by rw [← e]), ← e]
    · rw [valV_neg fun z => h1 (List.mem_map.mpr ⟨_, e, z.symm⟩)]
      exact valV_mem h2 e
theorem mergeK_nodup : ∀ {kvs acc : List (Key × V)}, ((acc ++ kvs).map (·.1)).Nodup → mergeK acc kvs = acc ++ kvs
  | [], acc, _ => by rw [List.append_nil]; rfl
  | p :: r, acc, h => by
    have hp : p.1 ∉ acc.map (·.1) := by
      rw [List.map_append, List.map_cons, List.nodup_append] at h
      exact fun hm => h.2.2 _ hm _ List.mem_cons_self rfl
    have e : putK acc p.1 p.2 = acc ++ [p] := by
      unfold putK
      rw [valV_any, valV_none hp]
      rw [if_neg (by decide)]
    show mergeK (putK acc p.1 p.2) r = _
    rw [e, mergeK_nodup (by rw [List.append_assoc]; exact h), List.append_assoc]
    rfl
section
variable {qs : List (Row Str)} {g g' : Row Str → Int} {r : Row Str} {v : Int}
theorem dI_keys : (dI qs g).map (·.1) = (names qs).map (Sum.inr : Str → Key) := by
  unfold dI names
  rw [List.map_map, List.map_map]
  rfl
theorem dI_nodup (nd : (names qs).Nodup) : ((dI qs g).map (·.1)).Nodup := by
  rw [dI_keys]
  exact List.pairwise_map.mpr (nd.imp fun h z => h (Sum.inr.inj z))
theorem dI_at (nd : (names qs).Nodup) (h : r ∈ qs) : valV (dI qs g) (Sum.inr r.1) = some (.int (g r)) := valV_mem (dI_nodup nd) (List.mem_map.mpr ⟨r, h, rfl⟩)
theorem dI_none {z : Str} (h : z ∉ names qs) : valV (dI qs g) (Sum.inr z) = none := valV_none fun hm => by
  rw [dI_keys] at hm
  obtain ⟨y, hy, e⟩ := List.mem_map.mp hm
  exact h (Sum.inr.inj e ▸ hy)
theorem dI_put (nd : (names qs).Nodup) (h : r ∈ qs) (h1 : g' r = v) (h2 : ∀ q ∈ qs, q.1 ≠ r.1 → g' q = g q) : putK (dI qs g) (Sum.inr r.1) (.int v) = dI qs g' := by
  unfold putK
  rw [valV_any, dI_at nd h]
  rw [if_pos (show (some (V.int (g r))).isSome = true from rfl)]
  unfold dI
  rw [List.map_map]
  refine List.map_congr_left fun q hq => ?_
  by_cases e : q.1 = r.1
  · have := KQ.row_eq nd hq h e
    subst this
    show (if (Sum.inr q.1 : Key) = Sum.inr q.1 then _ else _) = _
    rw [if_pos rfl, h1]
  · show (if (Sum.inr q.1 : Key) = Sum.inr r.1 then _ else _) = _
    rw [if_neg fun z => e (Sum.inr.inj z), h2 q hq e]
theorem dI_merge (nd : (names qs).Nodup) : mergeK [] (dI qs g) = dI qs g := mergeK_nodup (by rw [List.nil_append]; exact dI_nodup nd)
theorem dI_len : (dI qs g).length = qs.length := List.length_map ..
theorem dI_congr (h : ∀ r ∈ qs, g r = g' r) : dI qs g = dI qs g' := List.map_congr_left fun r hr => by rw [h r hr]
end
abbrev tolK (qs : List (Row Str)) (f : Str → Nat) : List (Key × V) := dI qs fun r => ((f r.1 : Nat) : Int)
def addcash (z : Str) (v : Int) (qs : List (Row Str)) : List (Row Str) := qs.map fun r => (r.1, (if r.1 = z then r.2.1 + v else r.2.1), r.2.2)
section
variable {K : PySem.W.Frag} {σ : L2.St} {H H' : Hp} {ta tb te td ty tl : TE} {t u : TT} {x y z v : V} {tr : TA} {D : Ends} {tz tu : TS}
theorem s_dput {td ty tv : TE} {a : Addr} {k : Key} {v : V} (hv : Ev tv σ H v) (hd : Ev td σ H (.ref a)) (hk : Ev ty σ H (kV k)) (kk : ∀ H1, Ex H H1 → ∃ kvs, H1 a = some (.dK kvs) ∧ kvs.length < sizeLine ∧ D.nx σ (upd H1 a (.dK (putK kvs k v)))) :
    sDPut td ty tv D σ H := by
  refine hv H (Ex.refl H) _ fun H1 e1 => ?_
  refine hd H1 e1 _ fun H2 e2 => ?_
  refine hk H2 (e1.trans e2) _ fun H3 e3 => ?_
  obtain ⟨kvs, h1, h2, h3⟩ := kk H3 ((e1.trans e2).trans e3)
  exact ⟨a, _, rfl, DPut.k h1 h2, h3⟩
/-- dict(a comprehension of pairs) -/
theorem ed_dictG {n : Nat} (ks : Nat → Key) (w : Nat → V) (h : EvG te σ H (idxs n (fun _ => true)) (fun i v H => ∃ p, v = .ref p ∧ H p = some (.tup [kV (ks i), w i]))) : EvD (tCB (rDictL K) (tCons te tNil)) σ H (mergeK [] ((List.range n).map fun i => (ks i, w i))) := fun H1 e Q q => by
  refine h H1 e _ fun p ys H2 hp0 e2 hp hpr => ?_
  rw [idxs_all] at hpr
  have gen : ∀ (is : List Nat) (rs : List V), Paired (fun i y => ∃ p, y = V.ref p ∧ H2 p = some (.tup [kV (ks i), w i])) is rs → ∃ ps : List Addr, rs = ps.map V.ref ∧ Paired (fun p (kv : Key × V) => SqT K H2 p [kV kv.1, kv.2]) ps (is.map fun i => (ks i, w i)) := fun is rs h => by
    induction h with
    | nil => exact ⟨[], rfl, .nil⟩
    | cons h1 _ ih =>
      obtain ⟨p, e, hp⟩ := h1
      obtain ⟨ps, e2, h2⟩ := ih
      exact ⟨p :: ps, by rw [e, e2]; rfl, .cons (st_of hp) h2⟩
  obtain ⟨ps, rfl, h2⟩ := gen _ _ hpr
  exact ⟨p, ps, _, rfl, sq_of hp, h2, fun d hd => q d _ (fresh_back e2 hd) (e2.trans (Ex.new hd)) upd_same⟩
/-- dict([(house[0], e) for house in queues[1]]) -/
theorem ed_rows {qs : List (Row Str)} {b : Addr} {ps : List Addr} {j : Nat} (g : Row Str → Int) (nd : (names qs).Nodup) (l40 : qs.length ≤ 40) (h : Ev tl σ H (.ref b)) (hb : H b = some (.tup (ps.map V.ref))) (hpr : Paired (RowH H) ps qs) (hj : j < σ.length) (hw : ∀ x, wipe ((wipe σ [j]).set j (some x)) [j] = wipe σ [j])
    (he : ∀ p r q (ps' : List Addr) H1, Ex H H1 → r ∈ qs → H p = some (.tup [.str r.1, .int r.2.1, .ref q]) → H q = some (.tup (ps'.map V.ref)) → Paired (PairH H) ps' r.2.2 → Ev te ((wipe σ [j]).set j (some (.ref p))) H1 (.int (g r))) :
    EvD (tCB (rDictL K) (tCons (tLc (iTup K tl) (gName j) tYes (tTup (tCons (tOp (rIxT K) (tVar j) (tC (.int 0))) (tCons te tNil))) [j]) tNil)) σ H (dI qs g) := by
  have hlen : (ps.map V.ref).length = qs.length := by rw [List.length_map, paired_len hpr]
  have wk := ed_dictG (K := K) (te := tLc (iTup K tl) (gName j) tYes (tTup (tCons (tOp (rIxT K) (tVar j) (tC (.int 0))) (tCons te tNil))) [j]) (σ := σ) (H := H) (n := (ps.map V.ref).length) (fun i => (Sum.inr (qs.getD i rowD).1 : Key)) (fun i => V.int (g (qs.getD i rowD)))
    (el_lcG (ei_tup (K := K) (eq_ev h (st_of hb))) (by rw [hlen]; omega) (fun _ => true) _ (fun i v H1 H2 e ⟨p, hv, hp⟩ => ⟨p, hv, e _ _ hp⟩) fun i x H1 H2 e1 hi hy => by
      obtain ⟨rfl, hx⟩ := hy
      obtain ⟨p, r, rfl, _, hqr, q', hrow, ps', hp', hpr'⟩ := RowsH.at hpr hx
      refine ⟨Ex.refl _, _, fun R h => h, hw _, et_yes, fun _ => ?_⟩
      rw [getD_of hqr]
      have hget : ((wipe σ [j]).set j (some (V.ref p)))[j]? = some (some (V.ref p)) := by
        rw [List.getElem?_set_self]
        unfold wipe
        simp
        exact hj
      refine gv_W (ew_of (eu_tup (vs := [.str r.1, .int (g r)]) (ea_cons (ev_op (ev_var hget) ev_c (rv_ixT (st_of (e1 _ _ hrow)) (at_of (j := 0) rfl rfl))) (ea_cons (he p r q' ps' _ e1 (List.mem_of_getElem? hqr) hrow hp' hpr') ea_nil)) (by show 2 ≤ 100000; omega))))
  have e : (List.range (ps.map V.ref).length).map (fun i => ((Sum.inr (qs.getD i rowD).1 : Key), V.int (g (qs.getD i rowD)))) = dI qs g := by
    rw [hlen]
    exact map_range_getD rowD (fun r : Row Str => ((Sum.inr r.1 : Key), V.int (g r))) qs
  rw [e, dI_merge nd] at wk
  exact wk
end
def spStateL : Sp := fun vs H Q _ => ∃ a t qs kvs f, vs = [.ref a, .ref t] ∧ QH H a qs ∧ qs.length ≤ 40 ∧ H t = some (.dK kvs) ∧ (∀ r ∈ qs, valV kvs (Sum.inr r.1) = some (.int (f r.1 : Nat))) ∧ ∀ p H', H p = none → Ex H H' → StH H' p qs f → Q (.ref p) H'
section
variable {P : Program} {w : World} {K : PySem.W.Frag} {mg : Str → Option Value} {base : Heap} {f : Addr} {fd : FuncData} {aK : Addr} {tk : Tk}
theorem ok__law_state (F : Fun K "_law_state" "_law_state" s__law_state f fd) (T : Tx K mg aK tk) : FnOk P w K mg base CX0 1 f fd ["queues", "told"] spStateL := by
  refine F.ok sc__law_state (fun vs H Q E h => ?_) (fun cdv A outer s H vs Q E hr h => ?_)
  · obtain ⟨a, t, qs, kvs, ff, rfl, _⟩ := h
    rfl
  · obtain ⟨a, t, qs, kvs, ff, rfl, ⟨b, ha, ps, hb, hpr⟩, l40, ht, hv, k⟩ := h
    have hu := hu_of hr
    refine ⟨_, (pss_one (ps_ret (pe_callTy (crTup (K := K) rfl) (by rfl) T.tuple (by decide +kernel) (pa_cons (pe_lc (own := [("house", 2)]) rfl sc__law_state.nd (piTup (K := K) rfl (pe_ix (ixT (K := K) rfl) (pv 0) pe_int (fun _ _ => rfl))) (blkOk_by (own := [("house", 2)]) (N := N__law_state) (sc := defScope s__law_state) (by decide +kernel)) (fun _ _ _ _ _ => (pg_name (i := 2) sc__law_state.nd rfl (Or.inl rfl))) (fun _ _ _ _ _ => pts_nil) (fun _ _ _ _ _ => (pe_dget hu (pv 1) (pe_ix (ixT (K := K) rfl) (pv 2) pe_int (fun _ _ => rfl)) (fun _ _ => rfl)))) pa_nil)))), ?_⟩
    have hlen : (ps.map V.ref).length = qs.length := by rw [List.length_map, paired_len hpr]
    have wk := el_lcV (te := tDGet (tVar 1) (tOp (rIxT K) (tVar 2) (tC (.int 0)))) (tt := tYes) (g := gName 2) (vs := [2]) (σ := [some (.ref a), some (.ref t), none]) (H := H) (fun i => V.int (ff (qs.getD i rowD).1 : Nat)) (fun _ => true) (ei_tup (K := K) (eq_ev (ev_houses (K := K) (ev_var (i := 0) rfl) ha) (st_of hb))) (by rw [hlen]; omega)
      fun i x H5 H6 e5 hi hy => by
        obtain ⟨rfl, hx⟩ := hy
        obtain ⟨p, r, rfl, _, hqr, q', hrow, _⟩ := RowsH.at hpr hx
        refine ⟨Ex.refl _, _, fun R h => h, rfl, et_yes, fun _ => ?_⟩
        rw [getD_of hqr]
        exact ev_dget (k := Sum.inr r.1) (ev_var rfl) (ev_op (ev_var rfl) ev_c (rv_ixT (st_of (e5 _ _ hrow)) (at_of (j := 0) rfl rfl))) (e5 _ _ ht) (hv r (List.mem_of_getElem? hqr))
    rw [idx_map rowD (fun r : Row Str => V.int (ff r.1 : Nat)) qs hlen] at wk
    exact s_retU (eu_tupOf wk) fun p H1 hp e1 hp1 => k p H1 hp e1 hp1
end
end NQ
namespace NQ
open PySem PySem.Spec PyProof.Rows L2 Evl
open KQ (Row held bump drop bump_same bump_ne drop_same drop_ne)
def spHeldL : Sp := fun vs H Q _ => ∃ a t qs f, vs = [.ref a, .ref t] ∧ QH H a qs ∧ WellQ qs ∧ H t = some (.dK (tolK qs f)) ∧ KQ.Within qs f ∧ ∀ d H', H d = none → Ex H H' → H' d = some (.dK (dI qs (held qs (cashF qs) f))) → Q (.ref d) H'
section
variable {P : Program} {w : World} {K : PySem.W.Frag} {mg : Str → Option Value} {base : Heap} {f : Addr} {fd : FuncData} {aK : Addr} {tk : Tk}
theorem ok__law_held (F : Fun K "_law_held" "_law_held" s__law_held f fd) (T : Tx K mg aK tk) : FnOk P w K mg base CX0 1 f fd ["queues", "told"] spHeldL := by
  refine F.ok sc__law_held (fun vs H Q E h => ?_) (fun cdv A outer s H vs Q E hr h => ?_)
  · obtain ⟨a, t, qs, ff, rfl, _⟩ := h
    rfl
  · obtain ⟨a, t, qs, ff, rfl, hq, W, ht, hw, k⟩ := h
    have hu := hu_of hr
    refine ⟨_, (pss_cons (ps_set (i := 2) sc__law_held.nd rfl (Or.inl rfl) (pe_callTy (crDictL (K := K) rfl rfl) (by rfl) T.dict (by decide +kernel) (pa_cons (pe_lc (own := [("house", 3)]) rfl sc__law_held.nd (piTup (K := K) rfl (pe_ix (ixT (K := K) rfl) (pv 0) pe_int (fun _ _ => rfl))) (blkOk_by (own := [("house", 3)]) (N := N__law_held) (sc := defScope s__law_held) (by decide +kernel)) (fun _ _ _ _ _ => (pg_name (i := 3) sc__law_held.nd rfl (Or.inl rfl))) (fun _ _ _ _ _ => pts_nil) (fun _ _ _ _ _ => (pe_tup (pa_cons (pe_ix (ixT (K := K) rfl) (pv 3) pe_int (fun _ _ => rfl)) (pa_cons (pe_ix (ixT (K := K) rfl) (pv 3) pe_int (fun _ _ => rfl)) pa_nil))))) pa_nil)))
      (pss_cons (ps_for PassesOwn.never rfl (piTup (K := K) rfl (pe_ix (ixT (K := K) rfl) (pv 0) pe_int (fun _ _ => rfl))) (pgTup (K := K) (n := 3) rfl rfl (pgs_cons (pg_name (i := 4) sc__law_held.nd rfl (Or.inl rfl)) (pgs_cons (pg_name (i := 5) sc__law_held.nd rfl (Or.inl rfl)) (pgs_cons (pg_name (i := 6) sc__law_held.nd rfl (Or.inl rfl)) pgs_nil))))
        (pss_one (ps_for PassesOwn.never rfl (piTup (K := K) rfl (pe_slice (slA (K := K) rfl) (pv 6) po_none (po_some (pe_dget hu (pv 1) (pv 4) (fun _ _ => rfl))))) (pgTup (K := K) (n := 2) rfl rfl (pgs_cons (pg_name (i := 7) sc__law_held.nd rfl (Or.inl rfl)) (pgs_cons (pg_name (i := 8) sc__law_held.nd rfl (Or.inl rfl)) pgs_nil)))
        (pss_cons (ps_dput hu (pv 2) (pv 4) (pe_op op_sub (pe_dget hu (pv 2) (pv 4) (fun _ _ => rfl)) (pv 8)) rfl)
      (pss_one (ps_dput hu (pv 2) (pv 7) (pe_op op_add (pe_dget hu (pv 2) (pv 7) (fun _ _ => rfl)) (pv 8)) rfl))))))
      (pss_one (ps_ret (pv 2))))), ?_⟩
    obtain ⟨hb0, ha, ps, hb, hpr⟩ := id hq
    have hlen : (ps.map V.ref).length = qs.length := by rw [List.length_map, paired_len hpr]
    have l40 := W.l40
    have nd := W.nd
    have ecash : dI qs (fun r => r.2.1) = dI qs (held qs (cashF qs) (upto qs 0 ff)) := dI_congr fun r hr => by
      rw [upto_none, held_zero, cashF_at nd hr]
    refine q_asgD (ed_rows (K := K) (j := 3) (fun r => r.2.1) nd l40 (ev_houses (K := K) (ev_var (i := 0) rfl) ha) hb hpr (by show 3 < 9; omega) (fun _ => rfl) fun p r q ps' H1 e1 hr hp hq hpr' => ev_op (ev_var rfl) ev_c (rv_ixT (st_of (e1 _ _ hp)) (at_of (j := 1) rfl rfl))) fun d H1 hd0 e1 hd => ?_
    rw [ecash] at hd
    refine q_forT (K := K) (a := hb0) (xs := ps.map V.ref) (σ := [some (.ref a), some (.ref t), some (.ref d), none, none, none, none, none, none]) (ev_houses (K := K) (ev_var rfl) (e1 _ _ ha)) (st_of (e1 _ _ hb))
      (fun i σ' H' => ∃ y4 y5 y6 y7 y8, σ' = [some (.ref a), some (.ref t), some (.ref d), none, y4, y5, y6, y7, y8] ∧ Ex H H' ∧ H' d = some (.dK (dI qs (held qs (cashF qs) (upto qs i ff)))))
      (fun H2 e2 => ⟨none, none, none, none, none, rfl, e1.trans e2, e2 _ _ hd⟩) (fun i σ' H' _ hP => ?_) (fun i x σ' H' hx hP => ?_) (fun σ' H' hP => ?_)
    · obtain ⟨_, _, _, _, _, _, e, _⟩ := hP
      exact st_of (e _ _ hb)
    · obtain ⟨y4, y5, y6, y7, y8, rfl, e, hd'⟩ := hP
      obtain ⟨p, r, rfl, _, hqr, q', hrow, ps', hp', hpr'⟩ := RowsH.at hpr hx
      have hrm := List.mem_of_getElem? hqr
      have hwl := hw r hrm
      have lps : (ps'.map V.ref).length = r.2.2.length := by rw [List.length_map, paired_len hpr']
      refine g_tup3 (i := 4) (j := 5) (l := 6) (e _ _ hrow) ?_
      have sl := eq_slA (K := K) (σ := [some (.ref a), some (.ref t), some (.ref d), none, some (.str r.1), some (.int r.2.1), some (.ref q'), y7, y8]) (H := H') (te := tVar 6) (tb := tDGet (tVar 1) (tVar 4)) (n := ff r.1) (xs := ps'.map V.ref) (a := q')
        (ev_var rfl) (st_of (e _ _ hp')) (ev_dget (k := Sum.inr r.1) (ev_var rfl) (ev_var rfl) (e _ _ ht) (dI_at nd hrm))
      refine s_forX sl (fun pa j σ' H' => ∃ y7 y8, σ' = [some (.ref a), some (.ref t), some (.ref d), none, some (.str r.1), some (.int r.2.1), some (.ref q'), y7, y8] ∧ SqT K H' pa ((ps'.map V.ref).take (ff r.1)) ∧ Ex H H' ∧ H' d = some (.dK (dI qs (held qs (cashF qs) (inrow r.1 j (upto qs i ff))))))
        (fun pa H3 e3 hpa => ⟨y7, y8, rfl, hpa, e.trans e3, by rw [upto_in nd hqr]; exact e3 _ _ hd'⟩) (fun pa j σ' H' hP => by obtain ⟨_, _, _, h, _⟩ := hP; exact h) (fun pa j x σ' H' hx hP => ?_) (fun pa σ' H' hP => ?_)
      · obtain ⟨z7, z8, rfl, hpa, e3, hd3⟩ := hP
        have hjt := hx
        rw [List.getElem?_take] at hjt
        split at hjt
        case isFalse => cases hjt
        rename_i hjf
        obtain ⟨px, xx, rfl, _, hxx, hxp⟩ := PayH.at hpr' hjt
        have hxm := W.mem r hrm xx (List.mem_of_getElem? hxx)
        obtain ⟨rj, hjm, ejn⟩ := List.mem_map.mp hxm
        have hgx : r.2.2[inrow r.1 j (upto qs i ff) r.1]? = some xx := by
          unfold inrow
          rw [if_pos rfl]
          exact hxx
        generalize hg : inrow r.1 j (upto qs i ff) = gg at hd3 hgx
        have hsz : ∀ g : Row Str → Int, (dI qs g).length < sizeLine := fun g => by
          rw [dI_len]
          exact small1000 (by omega)
        refine g_tup2 (i := 7) (j := 8) (e3 _ _ hxp) ?_
        refine q_dput (a := d) (k := Sum.inr r.1) (v := .int (held qs (cashF qs) gg r - xx.2)) (σ := [some (.ref a), some (.ref t), some (.ref d), none, some (.str r.1), some (.int r.2.1), some (.ref q'), some (.str xx.1), some (.int xx.2)])
          (ev_sub (ev_dget (k := Sum.inr r.1) (ev_var rfl) (ev_var rfl) hd3 (dI_at nd hrm)) (ev_var rfl)) (ev_var rfl) (ev_var rfl) fun H4 e4 => ⟨_, e4 _ _ hd3, hsz _, ?_⟩
        rw [dI_put (g' := fun q => held qs (cashF qs) gg q - if q.1 = r.1 then xx.2 else 0) nd hrm (by rw [if_pos rfl]) fun q _ hq => by rw [if_neg hq, Int.sub_zero]]
        have hd4 : (upd H4 d (.dK (dI qs fun q => held qs (cashF qs) gg q - if q.1 = r.1 then xx.2 else 0))) d = some (.dK (dI qs fun q => held qs (cashF qs) gg q - if q.1 = r.1 then xx.2 else 0)) := upd_same
        have e5 : Ex H (upd H4 d (.dK (dI qs fun q => held qs (cashF qs) gg q - if q.1 = r.1 then xx.2 else 0))) := Ex.mut (e3.trans e4) hd0
        have hpa4 : SqT K (upd H4 d (.dK (dI qs fun q => held qs (cashF qs) gg q - if q.1 = r.1 then xx.2 else 0))) pa ((ps'.map V.ref).take (ff r.1)) := st_updD (ex_t e4 hpa) (e4 _ _ hd3)
        generalize upd H4 d (.dK (dI qs fun q => held qs (cashF qs) gg q - if q.1 = r.1 then xx.2 else 0)) = H5 at hd4 e5 hpa4
        have hv2 : valV (dI qs fun q => held qs (cashF qs) gg q - if q.1 = r.1 then xx.2 else 0) (Sum.inr xx.1) = some (.int (held qs (cashF qs) gg rj - if rj.1 = r.1 then xx.2 else 0)) := by
          rw [← ejn]
          exact dI_at nd hjm
        refine s_dput (a := d) (k := Sum.inr xx.1) (v := .int ((held qs (cashF qs) gg rj - if rj.1 = r.1 then xx.2 else 0) + xx.2)) (σ := [some (.ref a), some (.ref t), some (.ref d), none, some (.str r.1), some (.int r.2.1), some (.ref q'), some (.str xx.1), some (.int xx.2)])
          (ev_add (ev_dget (k := Sum.inr xx.1) (ev_var rfl) (ev_var rfl) hd4 hv2) (ev_var rfl)) (ev_var rfl) (ev_var rfl) fun H6 e6 => ⟨_, e6 _ _ hd4, hsz _, ?_⟩
        have ep : putK (dI qs fun q => held qs (cashF qs) gg q - if q.1 = r.1 then xx.2 else 0) (Sum.inr xx.1) (.int ((held qs (cashF qs) gg rj - if rj.1 = r.1 then xx.2 else 0) + xx.2)) = dI qs (held qs (cashF qs) (bump gg r.1)) := by
          rw [← ejn]
          refine dI_put nd hjm ?_ fun q hq hn => ?_
          · rw [KQ.held_bump nd hrm hjm hgx, if_pos ejn.symm]
          · rw [KQ.held_bump nd hrm hq hgx, if_neg (c := xx.1 = q.1) (fun z => hn (by rw [ejn]; exact z.symm)), Int.add_zero]
        rw [ep, ← hg, inrow_bump]
        exact ⟨_, _, rfl, st_updD (ex_t e6 hpa4) (e6 _ _ hd4), Ex.mut (e5.trans e6) hd0, upd_same⟩
      · obtain ⟨z7, z8, rfl, hpa, e3, hd3⟩ := hP
        have hmin : ((ps'.map V.ref).take (ff r.1)).length = ff r.1 := by
          rw [List.length_take, lps]
          omega
        rw [hmin, upto_out hqr] at hd3
        exact ⟨_, _, _, _, _, rfl, e3, hd3⟩
    · obtain ⟨y4, y5, y6, y7, y8, rfl, e, hd'⟩ := hP
      have eall : dI qs (held qs (cashF qs) (upto qs (ps.map V.ref).length ff)) = dI qs (held qs (cashF qs) ff) := dI_congr fun r hr => by
        rw [hlen]
        have e : ∀ r ∈ qs, upto qs qs.length ff r.1 = ff r.1 := fun r hr => by
          unfold upto
          rw [if_pos]
          rw [List.take_of_length_le (by rw [List.length_map]; exact Nat.le_refl _)]
          exact List.mem_map.mpr ⟨r, hr, rfl⟩
        unfold KQ.held
        rw [e r hr, KQ.got_congr e]
      rw [eall] at hd'
      exact s_ret (ev_var (i := 2) rfl) fun H2 e2 => k d H2 hd0 (e.trans e2) (e2 _ _ hd')
end
end NQ
namespace NQ
open PySem PySem.Spec PyProof.Rows L2 Evl
open KQ (Row held bump drop bump_same bump_ne drop_same drop_ne)
section
variable {K : PySem.W.Frag} {σ : L2.St} {H H' : Hp} {ta tb te td ty tl : TE} {t u tt : TT} {x y z v : V} {tr : TA} {D : Ends} {tz tu : TS}
/-- a comprehension with a test over what J gives, once J stands: items known -/
theorem lc_F {J : It} {G : Hp → Prop} {Y : Nat → Hp → V → Hp → Prop} {n : Nat} {g : TG} {vs : List Nat} (W : Walk J n G Y) (hG : ∀ H3, Ex H H3 → G H3) (hn : n ≤ 40000) (f : Nat → Bool) (w : Nat → V)
    (hb : ∀ i x H1 H2, Ex H H1 → i < n → Y i H1 x H2 → Ex H1 H2 ∧ ∃ σ2, (∀ R : L2.St → Hp → Prop, R σ2 H2 → g x (wipe σ vs) H2 R) ∧ wipe σ2 vs = wipe σ vs ∧ EvT tt σ2 H2 (f i) ∧ (f i = true → Ev te σ2 H2 (w i)))
    {Q : Addr → Hp → Prop} (q : ∀ p H2, H p = none → Ex H H2 → H2 p = some (.lst ((idxs n f).map w)) → Q p H2) :
    ∀ Dl, H Dl = none → ∃ W : Nat → Nat → Hp → Prop, (∃ m, W 0 m (L2.upd H Dl (.lst []))) ∧ ∀ i m H, W i m H →
      (J.stop i H ∧ Q Dl H) ∨ (J.go i H ∧ ∃ Nx : Hp → Prop, (∀ H', Nx H' → ∃ m', m' < m ∧ W (i + 1) m' H') ∧ ∀ x H', J.yld i H x H' → g x (wipe σ vs) H' fun σ2 H2 => wipe σ2 vs = wipe σ vs ∧ tt σ2 H2 fun b H3 =>
        if b = true then te σ2 H3 fun y H4 => ∃ acc, H4 Dl = some (.lst acc) ∧ acc.length < sizeLine ∧ Nx (L2.upd H4 Dl (.lst (acc ++ [y]))) else Nx H3) := fun Dl hD => by
  refine lc_it W (fun i H' => Ex H H' ∧ H' Dl = some (.lst ((idxs i f).map w))) ⟨Ex.new hD, upd_same⟩ (fun i H' _ p => hG H' p.1) (fun i x H' H2 hi p hy => ?_) fun H' p => q Dl H' hD p.1 p.2
  obtain ⟨p2, p3⟩ := p
  obtain ⟨e2, σ2, b2, b1, b3, b4⟩ := hb i x H' H2 p2 hi hy
  refine b2 _ ⟨b1, b3 H2 (Ex.refl H2) _ fun H3 e3 => ?_⟩
  have hl : ((idxs i f).map w).length ≤ i := by
    rw [List.length_map]
    have := List.length_filter_le f (List.range i)
    rw [List.length_range] at this
    exact this
  cases hf : f i with
  | true =>
    rw [if_pos rfl]
    refine b4 hf H3 e3 _ fun H4 e4 => ?_
    have e24 := (e2.trans e3).trans e4
    refine ⟨_, e24 _ _ p3, sz_lt (by omega), Ex.mut (p2.trans e24) hD, ?_⟩
    rw [upd_same, idxs_yes hf, List.map_append]
    rfl
  | false =>
    rw [if_neg (by decide)]
    refine ⟨p2.trans (e2.trans e3), ?_⟩
    rw [idxs_no hf]
    exact (e2.trans e3) _ _ p3
/-- x = [e for k in d if c], d a dict at a name -/
theorem q_lockLc {kvs : List (Key × V)} {d : Addr} {i j m : Nat} {vs : List Nat} (hv : σ[m]? = some (some (.ref d))) (hd : H d = some (.dK kvs)) (hn : kvs.length ≤ 40000) (f : Nat → Bool) (w : Nat → V) (hw : ∀ x, wipe ((wipe σ vs).set j (some x)) vs = wipe σ vs)
    (hb : ∀ (i : Nat) k v H1, (∀ b o, b ≠ d → H b = some o → H1 b = some o) → kvs[i]? = some (k, v) → EvT tt ((wipe σ vs).set j (some (kV k))) H1 (f i) ∧ (f i = true → Ev te ((wipe σ vs).set j (some (kV k))) H1 (w i)))
    (k : ∀ p H1, H p = none → Ex H H1 → H1 p = some (.lst ((idxs kvs.length f).map w)) → tz D (σ.set i (some (.ref p))) H1) :
    tSeq (tLock (tAsg (tLc (iKeys (tVar m)) (gName j) tt te vs) (gName i))) tz D σ H := by
  refine ⟨d, .dK kvs, hd, trivial, fun od => ?_⟩
  have hL : (L2.upd H d (.frz od (.dK kvs))) d = some (.frz od (.dK kvs)) := upd_same
  have nb : ∀ b o, b ≠ d → H b = some o → (L2.upd H d (.frz od (.dK kvs))) b = some o := fun b o n h => by
    rw [upd_ne n]
    exact h
  have back : ∀ b, (L2.upd H d (.frz od (.dK kvs))) b = none → H b = none := fun b h => by
    by_cases e : b = d
    · rw [e, hL] at h
      cases h
    · rw [upd_ne e] at h
      exact h
  generalize L2.upd H d (.frz od (.dK kvs)) = HL at hL nb back
  refine ⟨.ref d, hv, d, od, rfl, Or.inl ⟨kvs, hL, ?_⟩⟩
  refine lc_F (walk_keys (d := d) (o := od) (kvs := kvs)) (fun H3 e3 => e3 _ _ hL) hn f w (fun i x H1 H2 e1 hi hy => ?_) fun p H2 hp e2 hp2 => ?_
  · obtain ⟨rfl, k, v, hkv, rfl⟩ := hy
    obtain ⟨h1, h2⟩ := hb i k v H2 (fun b o n h => e1 _ _ (nb b o n h)) hkv
    exact ⟨Ex.refl _, _, fun R h => h, hw _, h1, h2⟩
  · have hd2 := e2 _ _ hL
    refine ⟨hd2, k p _ (back p hp) (fun b o h => ?_) ?_⟩
    · by_cases e : b = d
      · rw [e, upd_same, ← hd, e.symm, h]
      · rw [upd_ne e]
        exact e2 _ _ (nb b o e h)
    · rw [upd_ne fun z => by rw [z, hL] at hp; cases hp]
      exact hp2
end
abbrev ixS' (qs : List (Row Str)) (is : List Nat) : List V := is.map fun i => V.str (qs.getD i rowD).1
theorem ixS_strs (qs : List (Row Str)) (is : List Nat) : ixS' qs is = (is.map fun i => (qs.getD i rowD).1).map V.str := by
  unfold ixS'
  rw [List.map_map]
  rfl
theorem ixS_nil {K : PySem.W.Frag} {σ : L2.St} {H : Hp} {ta : TE} {p : Addr} {qs : List (Row Str)} {is : List Nat} (W : WellQ qs) (hi : ∀ i ∈ is, i < qs.length) (ha : Ev ta σ H (.ref p)) (hp : H p = some (.lst (ixS' qs is))) : Ev (tOp (rEqD K) ta (tLst tNil)) σ H (.bl is.isEmpty) := by
  have h := ev_eqNil (K := K) (σ := σ) (H := H) (ta := ta) (xs := ixS' qs is) (ds := (is.map fun i => (qs.getD i rowD).1).map PyData.str) ha hp (by rw [ixS_strs]; exact dp_strs _ _) (fun H1 _ => by rw [ixS_strs]; exact dp_strs _ _) (shaped_strs fun z hz => by
    obtain ⟨i, him, rfl⟩ := List.mem_map.mp hz
    obtain ⟨r, hr⟩ := get_of (l := qs) (i := i) rfl (hi i him)
    rw [getD_of hr]
    exact W.ok r (List.mem_of_getElem? hr))
  rw [show (ixS' qs is).isEmpty = is.isEmpty by cases is <;> rfl] at h
  exact h
def negIx (qs : List (Row Str)) (c : Str → Int) (f : Str → Nat) : List Nat := idxs qs.length fun i => decide (held qs c f (qs.getD i rowD) < 0)
theorem idxs_lt {n : Nat} {f : Nat → Bool} : ∀ i ∈ idxs n f, i < n := fun i h => List.mem_range.mp (List.mem_filter.mp h).1
theorem negIx_none {qs : List (Row Str)} {c : Str → Int} {f : Str → Nat} (h : negIx qs c f = []) : KQ.Feas qs c f := fun r hr => by
  obtain ⟨i, hi, e⟩ := List.mem_iff_getElem.mp hr
  have hq : qs[i]? = some r := by rw [List.getElem?_eq_getElem hi, e]
  rcases Int.lt_or_le (held qs c f r) 0 with h1 | h1
  · have : i ∈ negIx qs c f := List.mem_filter.mpr ⟨List.mem_range.mpr hi, by rw [getD_of hq]; exact decide_eq_true h1⟩
    rw [h] at this
    cases this
  · exact h1
def spRunL : Sp := fun vs H Q _ => ∃ a qs, vs = [.ref a] ∧ QH H a qs ∧ WellQ qs ∧ ∀ d f H', H d = none → Ex H H' → KQ.Least qs (cashF qs) f → H' d = some (.dK (tolK qs f)) → Q (.ref d) H'
def spBackL : Sp := fun vs H Q _ => ∃ a qs, vs = [.ref a] ∧ QH H a qs ∧ WellQ qs ∧ (∀ r ∈ qs, 0 ≤ r.2.1) ∧ ∀ d f H', H d = none → Ex H H' → KQ.Great qs (cashF qs) f → H' d = some (.dK (tolK qs f)) → Q (.ref d) H'
theorem ed_heldL {σ : L2.St} {H : Hp} {tr : TA} {a t : Addr} {qs : List (Row Str)} {f : Str → Nat} (h : EvA tr σ H [.ref a, .ref t]) (hq : QH H a qs) (W : WellQ qs) (ht : H t = some (.dK (tolK qs f))) (hw : KQ.Within qs f) : EvD (tCall spHeldL [] E0 tr) σ H (dI qs (held qs (cashF qs) f)) := fun H1 e Q q => by
  refine h H1 e _ fun H2 e2 => ?_
  rw [List.append_nil]
  exact ⟨a, t, qs, f, rfl, hq.tx (TX.of (e.trans e2)), W, (e.trans e2) _ _ ht, hw, fun d H' hd e3 hd' => q d H' (fresh_back e2 hd) (e2.trans e3) hd'⟩
theorem idxs_head {n : Nat} {f : Nat → Bool} {i : Nat} {l : List Nat} (h : idxs n f = i :: l) : i < n ∧ f i = true := by
  have hm : i ∈ idxs n f := by rw [h]; exact List.mem_cons_self
  have := List.mem_filter.mp hm
  exact ⟨List.mem_range.mp this.1, this.2⟩
section
variable {P : Program} {w : World} {K : PySem.W.Frag} {mg : Str → Option Value} {base : Heap} {f : Addr} {fd : FuncData} {aK : Addr} {tk : Tk}
theorem ok__law_run_out (F : Fun K "_law_run_out" "_law_run_out" s__law_run_out f fd) (T : Tx K mg aK tk) (c__law_held : Cal P w K mg base CX0 1 "_law_held" ["queues", "told"] spHeldL) : FnOk P w K mg base CX0 2 f fd ["queues"] spRunL := by
  refine F.ok sc__law_run_out (fun vs H Q E h => ?_) (fun cdv A outer s H vs Q E hr h => ?_)
  · obtain ⟨a, qs, rfl, _⟩ := h
    rfl
  · obtain ⟨a, qs, rfl, hq, W, k⟩ := h
    have hu := hu_of hr
    refine ⟨_, (pss_cons (ps_set (i := 1) sc__law_run_out.nd rfl (Or.inr rfl) (pe_callTy (crDictL (K := K) rfl rfl) (by rfl) T.dict (by decide +kernel) (pa_cons (pe_lc (own := [("house", 2)]) rfl sc__law_run_out.nd (piTup (K := K) rfl (pe_ix (ixT (K := K) rfl) (pv 0) pe_int (fun _ _ => rfl))) (blkOk_by (own := [("house", 2)]) (N := N__law_run_out) (sc := defScope s__law_run_out) (by decide +kernel)) (fun _ _ _ _ _ => (pg_name (i := 2) sc__law_run_out.nd rfl (Or.inl rfl))) (fun _ _ _ _ _ => pts_nil) (fun _ _ _ _ _ => (pe_tup (pa_cons (pe_ix (ixT (K := K) rfl) (pv 2) pe_int (fun _ _ => rfl)) (pa_cons pe_int pa_nil))))) pa_nil)))
      (pss_cons (ps_for PassesOwn.never rfl (pi_range1 (by rfl) T.range (pa_cons pe_int pa_nil)) (pg_name (i := 3) sc__law_run_out.nd rfl (Or.inl rfl))
        (pss_cons (ps_set (i := 4) sc__law_run_out.nd rfl (Or.inr rfl) (pe_cl c__law_held hr (by decide) (by rfl) (pa_cons (pv 0) (pa_cons (pv 1) pa_nil))))
      (pss_cons (ps_setLc (i := 5) (own := [("name", 6), ("cash", 7), ("payments", 8)]) rfl sc__law_run_out.nd rfl rfl (sw_true rfl rfl rfl (by decide +kernel)) (piTup (K := K) rfl (pe_ix (ixT (K := K) rfl) (pv 0) pe_int (fun _ _ => rfl))) (blkOk_by (own := [("name", 6), ("cash", 7), ("payments", 8)]) (N := N__law_run_out) (sc := defScope s__law_run_out) (by decide +kernel)) (fun _ _ _ _ _ => (pgTup (K := K) (n := 3) rfl rfl (pgs_cons (pg_name (i := 6) sc__law_run_out.nd rfl (Or.inl rfl)) (pgs_cons (pg_name (i := 7) sc__law_run_out.nd rfl (Or.inl rfl)) (pgs_cons (pg_name (i := 8) sc__law_run_out.nd rfl (Or.inl rfl)) pgs_nil))))) (fun _ _ _ _ _ => pts_one (PW.pt (pw_and (pt_cmpR op_lt (pe_dget hu (pv 1) (pv 6) (fun _ _ => rfl)) (pe_callB (crLen (K := K) rfl) (by rfl) T.len (by decide +kernel) (pa_cons (pv 8) pa_nil)) (nomark _)) (pw_and1 (pt_cmpR op_le (pe_ix (ixT (K := K) rfl) (pe_ix (ixT (K := K) rfl) (pv 8) (pe_dget hu (pv 1) (pv 6) (fun _ _ => rfl)) (fun _ _ => rfl)) pe_int (fun _ _ => rfl)) (pe_dget hu (pv 4) (pv 6) (fun _ _ => rfl)) (nomark _)))))) (fun _ _ _ _ _ => (pv 6)))
      (pss_cons (ps_if (pt_cmpR (opEqD (K := K) rfl hr.units) (pv 5) (pe_lst pa_nil) (nomark _))
        (pss_one ps_break)
        pss_nil)
      (pss_one (ps_dput hu (pv 1) (pe_ix (ixL (K := K) rfl) (pv 5) pe_int (fun _ _ => rfl)) (pe_op op_add (pe_dget hu (pv 1) (pe_ix (ixL (K := K) rfl) (pv 5) pe_int (fun _ _ => rfl)) (fun _ _ => rfl)) pe_int) rfl))))))
      (pss_one (ps_ret (pv 1))))), ?_⟩
    obtain ⟨hb0, ha, ps, hb, hpr⟩ := id hq
    have hlen : (ps.map V.ref).length = qs.length := by rw [List.length_map, paired_len hpr]
    have l40 := W.l40
    have nd := W.nd
    refine q_asgD (ed_rows (K := K) (j := 2) (fun _ => 0) nd l40 (ev_houses (K := K) (ev_var (i := 0) rfl) ha) hb hpr (by show 2 < 9; omega) (fun _ => rfl) fun p r q ps' H1 e1 hr hp hq hpr' => ev_c) fun t H1 ht0 e1 ht => ?_
    have ht' : H1 t = some (.dK (tolK qs fun _ => 0)) := ht
    refine q_forR1 (n := 2500) (σ := [some (.ref a), some (.ref t), none, none, none, none, none, none, none]) (ea_cons (ev_c (v := .int 2500)) ea_nil) (by omega)
      (fun i σ' H' => ∃ (ff : Str → Nat) (y3 y4 y5 y6 y7 y8 : Option V), σ' = [some (.ref a), some (.ref t), none, y3, y4, y5, y6, y7, y8] ∧ Ex H H' ∧ H' t = some (.dK (tolK qs ff)) ∧ KQ.Below qs (cashF qs) ff ∧ total qs ff = i)
      (fun H2 e2 => ⟨_, none, none, none, none, none, none, rfl, e1.trans e2, e2 _ _ ht', KQ.below_zero _ _, ?_⟩) (fun i σ' H' hi hP => ?_) (fun σ' H' hP => ?_)
    · unfold total
      exact (by
        have : ∀ l : List (Row Str), (l.map fun _ => 0).sum = 0 := fun l => by
          induction l with
          | nil => rfl
          | cons x r ih => rw [List.map_cons, List.sum_cons, ih]
        exact this qs)
    · obtain ⟨ff, y3, y4, y5, y6, y7, y8, rfl, eH, htt, be, htot⟩ := hP
      -- held
      refine q_asgD (σ := [some (.ref a), some (.ref t), none, some (.int (i : Int)), y4, y5, y6, y7, y8]) (ed_heldL (ea_cons (ev_var rfl) (ea_cons (ev_var rfl) ea_nil)) (hq.tx (TX.of eH)) W htt be.1) fun hd H2 hd0 e2 hhd => ?_
      have eH2 := eH.trans e2
      -- some
      have wk := el_lcV (te := tVar 6) (g := gTup K 3 (gCons (gName 6) (gCons (gName 7) (gCons (gName 8) gNil)))) (vs := [6, 7, 8]) (σ := [some (.ref a), some (.ref t), none, some (.int (i : Int)), some (.ref hd), y5, y6, y7, y8]) (H := H2)
        (tt := tAnd (tTest (tOp (rI0 fun i j => .bl (decide (i < j))) (tDGet (tVar 1) (tVar 6)) (tCB (rLenS K) (tCons (tVar 8) tNil)))) (tTest (tOp (rI0 fun i j => .bl (decide (i ≤ j))) (tOp (rIxT K) (tOp (rIxT K) (tVar 8) (tDGet (tVar 1) (tVar 6))) (tC (.int 1))) (tDGet (tVar 4) (tVar 6)))))
        (fun i => V.str (qs.getD i rowD).1) (fun i => canPay qs (cashF qs) ff (qs.getD i rowD)) (ei_tup (K := K) (eq_ev (ev_houses (K := K) (ev_var (i := 0) rfl) (eH2 _ _ ha)) (st_of (eH2 _ _ hb)))) (by rw [hlen]; omega)
        fun i x H5 H6 e5 hi hy => by
          obtain ⟨rfl, hx⟩ := hy
          obtain ⟨p, r, rfl, _, hqr, q', hrow, ps', hp', hpr'⟩ := RowsH.at hpr hx
          have hrm := List.mem_of_getElem? hqr
          have eH6 := eH2.trans e5
          refine ⟨Ex.refl _, _, fun R h => g_tup3 (i := 6) (j := 7) (l := 8) (eH6 _ _ hrow) h, rfl, ?_, fun _ => ?_⟩
          · rw [getD_of hqr]
            have est : ∀ {H7 : Hp}, Ex H6 H7 → Ev (tDGet (tVar 1) (tVar 6)) [some (.ref a), some (.ref t), none, some (.int (i : Int)), some (.ref hd), y5, some (.str r.1), some (.int r.2.1), some (.ref q')] H7 (.int (ff r.1 : Nat)) := fun e => ev_dget (k := Sum.inr r.1) (ev_var rfl) (ev_var rfl) (((e2.trans e5).trans e) _ _ htt) (dI_at nd hrm)
            refine et_is (et_and (et_test (ev_ltV (est (Ex.refl _)) (ev_lenT (ev_var rfl) (st_of (eH6 _ _ hp'))))) (b := canPay qs (cashF qs) ff r) fun hlt => ?_) ?_
            · rw [List.length_map, paired_len hpr', decide_eq_true_eq] at hlt
              obtain ⟨x, hx2⟩ := get_of (l := r.2.2) (i := ff r.1) rfl (by omega)
              obtain ⟨px, hpx⟩ := get_of (l := ps') (i := ff r.1) (paired_len hpr') (by omega)
              have hxp : H px = some (.tup [.str x.1, .int x.2]) := paired_at hpr' hpx hx2
              refine et_is (et_test (ev_leV (i := x.2) (j := held qs (cashF qs) ff r) (ev_op (ev_op (ev_var rfl) (est (Ex.refl _)) (rv_ixT (st_of (eH6 _ _ hp')) (at_of (j := ff r.1) rfl (by rw [List.getElem?_map, hpx]; rfl)))) ev_c (rv_ixT (st_of (eH6 _ _ hxp)) (at_of (j := 1) rfl rfl))) (ev_dget (k := Sum.inr r.1) (ev_var rfl) (ev_var rfl) (e5 _ _ hhd) (dI_at nd hrm)))) ?_
              unfold canPay
              rw [hx2]
            · rw [List.length_map, paired_len hpr']
              unfold canPay
              cases hx2 : r.2.2[ff r.1]? with
              | none => simp
              | some x =>
                have := (List.getElem?_eq_some_iff.mp hx2).1
                rw [decide_eq_true (by omega), Bool.true_and]
          · rw [getD_of hqr]
            exact ev_var rfl
      rw [hlen] at wk
      refine q_asgL (σ := [some (.ref a), some (.ref t), none, some (.int (i : Int)), some (.ref hd), y5, y6, y7, y8]) wk fun sm H3 hsm0 e3 hsm => ?_
      have hsm' : H3 sm = some (.lst (ixS' qs (payIx qs (cashF qs) ff))) := hsm
      -- if some == []
      have eH3 := eH2.trans e3
      refine q_when (σ := [some (.ref a), some (.ref t), none, some (.int (i : Int)), some (.ref hd), some (.ref sm), y6, y7, y8]) (b := (payIx qs (cashF qs) ff).isEmpty) (et_test (ixS_nil (K := K) W idxs_lt (ev_var (i := 5) rfl) hsm')) (fun hbe H4 e4 => ?_) fun hbe H4 e4 => ?_
      · have hnil : payIx qs (cashF qs) ff = [] := List.isEmpty_iff.mp hbe
        have e24 := (e2.trans e3).trans e4
        exact s_ret (ev_var (i := 1) rfl) fun H5 e5 => k t ff H5 ht0 (eH.trans (e24.trans e5)) ⟨be, payIx_none hnil⟩ ((e24.trans e5) _ _ htt)
      · cases hpi : payIx qs (cashF qs) ff with
        | nil =>
          rw [hpi] at hbe
          cases hbe
        | cons i0 l0 =>
          obtain ⟨r, hqr, hcan⟩ := payIx_at (k := 0) (by rw [hpi]; rfl)
          obtain ⟨x, hx, hpay⟩ := canPay_at hcan
          have hrm := List.mem_of_getElem? hqr
          rw [hpi] at hsm'
          have hs0 : Ev (tOp (rIxL K) (tVar 5) (tC (.int 0))) [some (.ref a), some (.ref t), none, some (.int (i : Int)), some (.ref hd), some (.ref sm), y6, y7, y8] H4 (.str r.1) := ev_op (ev_var rfl) ev_c (rv_ixL (sq_of (e4 _ _ hsm')) (at_of (j := 0) rfl (by show some (V.str (qs.getD i0 rowD).1) = _; rw [getD_of hqr])))
          have e24 := (e2.trans e3).trans e4
          refine s_dput (a := t) (k := Sum.inr r.1) (v := .int ((ff r.1 : Nat) + 1)) (ev_add (ev_dget (k := Sum.inr r.1) (ev_var rfl) hs0 (e24 _ _ htt) (dI_at nd hrm)) ev_c) (ev_var rfl) hs0 fun H5 e5 => ⟨_, (e24.trans e5) _ _ htt, by rw [dI_len]; exact small1000 (by omega), ?_⟩
          have ep : putK (tolK qs ff) (Sum.inr r.1) (.int ((ff r.1 : Nat) + 1)) = tolK qs (bump ff r.1) := dI_put nd hrm (by rw [bump_same]; rfl) fun q _ hq => by rw [bump_ne hq]
          rw [ep]
          refine ⟨bump ff r.1, _, _, _, _, _, _, rfl, Ex.mut (eH.trans (e24.trans e5)) ht0, upd_same, KQ.below_step W.good be hrm hx hpay, ?_⟩
          rw [total_bump nd hrm, htot]
    · obtain ⟨ff, y3, y4, y5, y6, y7, y8, rfl, eH, htt, be, htot⟩ := hP
      have := W.total be.1
      have e : (2500 : Int).toNat = 2500 := rfl
      omega
theorem ok__law_drawn_back (F : Fun K "_law_drawn_back" "_law_drawn_back" s__law_drawn_back f fd) (T : Tx K mg aK tk) (c__law_held : Cal P w K mg base CX0 1 "_law_held" ["queues", "told"] spHeldL) : FnOk P w K mg base CX0 2 f fd ["queues"] spBackL := by
  refine F.ok sc__law_drawn_back (fun vs H Q E h => ?_) (fun cdv A outer s H vs Q E hr h => ?_)
  · obtain ⟨a, qs, rfl, _⟩ := h
    rfl
  · obtain ⟨a, qs, rfl, hq, W, hc0, k⟩ := h
    have hu := hu_of hr
    refine ⟨_, (pss_cons (ps_set (i := 1) sc__law_drawn_back.nd rfl (Or.inl rfl) (pe_callTy (crDictL (K := K) rfl rfl) (by rfl) T.dict (by decide +kernel) (pa_cons (pe_lc (own := [("house", 2)]) rfl sc__law_drawn_back.nd (piTup (K := K) rfl (pe_ix (ixT (K := K) rfl) (pv 0) pe_int (fun _ _ => rfl))) (blkOk_by (own := [("house", 2)]) (N := N__law_drawn_back) (sc := defScope s__law_drawn_back) (by decide +kernel)) (fun _ _ _ _ _ => (pg_name (i := 2) sc__law_drawn_back.nd rfl (Or.inl rfl))) (fun _ _ _ _ _ => pts_nil) (fun _ _ _ _ _ => (pe_tup (pa_cons (pe_ix (ixT (K := K) rfl) (pv 2) pe_int (fun _ _ => rfl)) (pa_cons (pe_callB (crLen (K := K) rfl) (by rfl) T.len (by decide +kernel) (pa_cons (pe_ix (ixT (K := K) rfl) (pv 2) pe_int (fun _ _ => rfl)) pa_nil)) pa_nil))))) pa_nil)))
      (pss_cons (ps_for PassesOwn.never rfl (pi_range1 (by rfl) T.range (pa_cons pe_int pa_nil)) (pg_name (i := 3) sc__law_drawn_back.nd rfl (Or.inl rfl))
        (pss_cons (ps_set (i := 4) sc__law_drawn_back.nd rfl (Or.inr rfl) (pe_cl c__law_held hr (by decide) (by rfl) (pa_cons (pv 0) (pa_cons (pv 1) pa_nil))))
      (pss_cons (ps_lock (ps_setLc (i := 5) (own := [("name", 6)]) rfl sc__law_drawn_back.nd rfl rfl (sw_true rfl rfl rfl (by decide +kernel)) (pi_keys (pv 1)) (blkOk_by (own := [("name", 6)]) (N := N__law_drawn_back) (sc := defScope s__law_drawn_back) (by decide +kernel)) (fun _ _ _ _ _ => (pg_name (i := 6) sc__law_drawn_back.nd rfl (Or.inl rfl))) (fun _ _ _ _ _ => pts_one (pt_cmpR op_lt (pe_dget hu (pv 4) (pv 6) (fun _ _ => rfl)) pe_int (nomark _))) (fun _ _ _ _ _ => (pv 6))))
      (pss_cons (ps_if (pt_cmpR (opEqD (K := K) rfl hr.units) (pv 5) (pe_lst pa_nil) (nomark _))
        (pss_one ps_break)
        pss_nil)
      (pss_one (ps_dput hu (pv 1) (pe_ix (ixL (K := K) rfl) (pv 5) pe_int (fun _ _ => rfl)) (pe_op op_sub (pe_dget hu (pv 1) (pe_ix (ixL (K := K) rfl) (pv 5) pe_int (fun _ _ => rfl)) (fun _ _ => rfl)) pe_int) rfl))))))
      (pss_one (ps_ret (pv 1))))), ?_⟩
    obtain ⟨hb0, ha, ps, hb, hpr⟩ := id hq
    have hlen : (ps.map V.ref).length = qs.length := by rw [List.length_map, paired_len hpr]
    have l40 := W.l40
    have nd := W.nd
    refine q_asgD (ed_rows (K := K) (j := 2) (fun r => (r.2.2.length : Nat)) nd l40 (ev_houses (K := K) (ev_var (i := 0) rfl) ha) hb hpr (by show 2 < 7; omega) (fun _ => rfl) fun p r q ps' H1 e1 hr hp hq hpr' => ev_is (ev_lenT (K := K) (ev_op (ev_var rfl) ev_c (rv_ixT (K := K) (st_of (e1 _ _ hp)) (at_of (j := 2) rfl rfl))) (st_of (e1 _ _ hq))) (by rw [List.length_map, paired_len hpr'])) fun t H1 ht0 e1 ht => ?_
    have hfull : ∀ r ∈ qs, KQ.lenOf qs r.1 = r.2.2.length := fun r hr => KQ.lenOf_at nd hr
    have ht' : H1 t = some (.dK (tolK qs (KQ.lenOf qs))) := by
      rw [ht]
      congr 2
      exact dI_congr fun r hr => by rw [hfull r hr]
    have ab0 : KQ.Above qs (cashF qs) (KQ.lenOf qs) := KQ.above_all _ _ hfull
    have tot0 := W.total ab0.1
    refine q_forR1 (n := 2500) (σ := [some (.ref a), some (.ref t), none, none, none, none, none]) (ea_cons (ev_c (v := .int 2500)) ea_nil) (by omega)
      (fun i σ' H' => ∃ (ff : Str → Nat) (y3 y4 y5 y6 : Option V), σ' = [some (.ref a), some (.ref t), none, y3, y4, y5, y6] ∧ Ex H H' ∧ H' t = some (.dK (tolK qs ff)) ∧ KQ.Above qs (cashF qs) ff ∧ total qs ff + i = total qs (KQ.lenOf qs))
      (fun H2 e2 => ⟨_, none, none, none, none, rfl, e1.trans e2, e2 _ _ ht', ab0, rfl⟩) (fun i σ' H' hi hP => ?_) (fun σ' H' hP => ?_)
    · obtain ⟨ff, y3, y4, y5, y6, rfl, eH, htt, ab, htot⟩ := hP
      -- held
      refine q_asgD (σ := [some (.ref a), some (.ref t), none, some (.int (i : Int)), y4, y5, y6]) (ed_heldL (ea_cons (ev_var rfl) (ea_cons (ev_var rfl) ea_nil)) (hq.tx (TX.of eH)) W htt ab.1) fun hd H2 hd0 e2 hhd => ?_
      have eH2 := eH.trans e2
      have ntd : hd ≠ t := (ne_of_none htt hd0).symm
      have dl : (tolK qs ff).length = qs.length := dI_len
      -- some
      refine q_lockLc (σ := [some (.ref a), some (.ref t), none, some (.int (i : Int)), some (.ref hd), y5, y6]) (m := 1) (d := t) rfl (e2 _ _ htt) (by rw [dl]; omega) (fun i => decide (held qs (cashF qs) ff (qs.getD i rowD) < 0)) (fun i => V.str (qs.getD i rowD).1) (fun _ => rfl) (fun i kk v H3 e3 hkv => ?_) fun sm H3 hsm0 e3 hsm => ?_
      · obtain ⟨r, hqr, he⟩ := (by
          unfold tolK dI at hkv
          rw [List.getElem?_map] at hkv
          cases hqr : qs[i]? with
          | none =>
            rw [hqr] at hkv
            cases hkv
          | some r =>
            rw [hqr] at hkv
            exact ⟨r, rfl, (Option.some.inj hkv).symm⟩ : ∃ r, qs[i]? = some r ∧ (kk, v) = ((Sum.inr r.1 : Key), V.int (ff r.1 : Nat)))
        cases he
        have hrm := List.mem_of_getElem? hqr
        rw [getD_of hqr]
        exact ⟨et_test (ev_ltV (ev_dget (k := Sum.inr r.1) (ev_var (i := 4) rfl) (ev_var (i := 6) rfl) (e3 _ _ ntd hhd) (dI_at nd hrm)) ev_c), fun _ => ev_var (i := 6) rfl⟩
      rw [dl] at hsm
      have hsm' : H3 sm = some (.lst (ixS' qs (negIx qs (cashF qs) ff))) := hsm
      have eH3 := eH2.trans e3
      refine q_when (σ := [some (.ref a), some (.ref t), none, some (.int (i : Int)), some (.ref hd), some (.ref sm), y6]) (b := (negIx qs (cashF qs) ff).isEmpty) (et_test (ixS_nil (K := K) W idxs_lt (ev_var (i := 5) rfl) hsm')) (fun hbe H4 e4 => ?_) fun hbe H4 e4 => ?_
      · have hnil : negIx qs (cashF qs) ff = [] := List.isEmpty_iff.mp hbe
        have e24 := (e2.trans e3).trans e4
        exact s_ret (ev_var (i := 1) rfl) fun H5 e5 => k t ff H5 ht0 (eH.trans (e24.trans e5)) ⟨ab, negIx_none hnil⟩ ((e24.trans e5) _ _ htt)
      · cases hpi : negIx qs (cashF qs) ff with
        | nil =>
          rw [hpi] at hbe
          cases hbe
        | cons i0 l0 =>
          obtain ⟨hi0, hneg⟩ := idxs_head hpi
          obtain ⟨r, hqr⟩ := get_of (l := qs) (i := i0) rfl hi0
          rw [getD_of hqr] at hneg
          have hneg := of_decide_eq_true hneg
          have hrm := List.mem_of_getElem? hqr
          have h0 : ff r.1 ≠ 0 := KQ.above_pos W.good (by rw [cashF_at nd hrm]; exact hc0 r hrm) hneg
          rw [hpi] at hsm'
          have hs0 : Ev (tOp (rIxL K) (tVar 5) (tC (.int 0))) [some (.ref a), some (.ref t), none, some (.int (i : Int)), some (.ref hd), some (.ref sm), y6] H4 (.str r.1) := ev_op (ev_var rfl) ev_c (rv_ixL (sq_of (e4 _ _ hsm')) (at_of (j := 0) rfl (by show some (V.str (qs.getD i0 rowD).1) = _; rw [getD_of hqr])))
          have e24 := (e2.trans e3).trans e4
          refine s_dput (a := t) (k := Sum.inr r.1) (v := .int ((ff r.1 : Nat) - 1)) (ev_sub (ev_dget (k := Sum.inr r.1) (ev_var rfl) hs0 (e24 _ _ htt) (dI_at nd hrm)) ev_c) (ev_var rfl) hs0 fun H5 e5 => ⟨_, (e24.trans e5) _ _ htt, by rw [dI_len]; exact small1000 (by omega), ?_⟩
          have ep : putK (tolK qs ff) (Sum.inr r.1) (.int ((ff r.1 : Nat) - 1)) = tolK qs (drop ff r.1) := dI_put nd hrm (by rw [drop_same]; omega) fun q _ hq => by rw [drop_ne hq]
          rw [ep]
          have td := total_drop nd hrm h0
          refine ⟨drop ff r.1, _, _, _, _, rfl, Ex.mut (eH.trans (e24.trans e5)) ht0, upd_same, KQ.above_step W.good ab hrm hneg, ?_⟩
          omega
    · obtain ⟨ff, y3, y4, y5, y6, rfl, eH, htt, be, htot⟩ := hP
      have e : (2500 : Int).toNat = 2500 := rfl
      omega
end
end NQ
namespace KQ
variable {α : Type} [DecidableEq α]
/-- two systems side by side -/
structure Side (one other B : List (Row α)) : Prop where
  perm : B.Perm (one ++ other)
  g1 : Good one
  g2 : Good other
  dis : ∀ r ∈ one, ∀ q ∈ other, r.1 ≠ q.1
  in1 : ∀ r ∈ one, ∀ x ∈ r.2.2, x.1 ∈ one.map fun r => r.1
  in2 : ∀ r ∈ other, ∀ x ∈ r.2.2, x.1 ∈ other.map fun r => r.1
variable {one other B : List (Row α)} {c d : α → Int} {f g f1 f2 g1 g2 gl : α → Nat}
theorem Side.mem (S : Side one other B) {R : Row α} : R ∈ B ↔ R ∈ one ∨ R ∈ other := by
  rw [S.perm.mem_iff, List.mem_append]
theorem Side.swap (S : Side one other B) : Side other one B := ⟨S.perm.trans List.perm_append_comm, S.g2, S.g1, fun r hr q hq e => S.dis q hq r hr e.symm, S.in2, S.in1⟩
theorem Side.held1 (S : Side one other B) {r : Row α} (hr : r ∈ one) : held B c f r = held one c f r := by
  unfold held
  have h : got other f r.1 = 0 := got_none (fun q hq x hx e => by
    obtain ⟨p, hp, e2⟩ := List.mem_map.mp (S.in2 q hq x hx)
    exact S.dis r hr p hp (by rw [e2, e])) f
  rw [got_perm S.perm, got_append, h]
  omega
theorem Side.held2 (S : Side one other B) {r : Row α} (hr : r ∈ other) : held B c f r = held other c f r := S.swap.held1 hr
theorem Side.within (S : Side one other B) : Within B f ↔ Within one f ∧ Within other f :=
  ⟨fun h => ⟨fun r hr => h r (S.mem.mpr (Or.inl hr)), fun r hr => h r (S.mem.mpr (Or.inr hr))⟩, fun ⟨h1, h2⟩ r hr => (S.mem.mp hr).elim (h1 r) (h2 r)⟩
theorem Side.leq (S : Side one other B) : Leq B f g ↔ Leq one f g ∧ Leq other f g :=
  ⟨fun h => ⟨fun r hr => h r (S.mem.mpr (Or.inl hr)), fun r hr => h r (S.mem.mpr (Or.inr hr))⟩, fun ⟨h1, h2⟩ r hr => (S.mem.mp hr).elim (h1 r) (h2 r)⟩
theorem Side.stable (S : Side one other B) : Stable B c f ↔ Stable one c f ∧ Stable other c f := by
  constructor
  · intro h
    refine ⟨fun r hr x hx => ?_, fun r hr x hx => ?_⟩
    · rw [← S.held1 hr]
      exact h r (S.mem.mpr (Or.inl hr)) x hx
    · rw [← S.held2 hr]
      exact h r (S.mem.mpr (Or.inr hr)) x hx
  · rintro ⟨h1, h2⟩ r hr x hx
    rcases S.mem.mp hr with h | h
    · rw [S.held1 h]
      exact h1 r h x hx
    · rw [S.held2 h]
      exact h2 r h x hx
theorem Side.feas (S : Side one other B) : Feas B c f ↔ Feas one c f ∧ Feas other c f := by
  constructor
  · intro h
    refine ⟨fun r hr => ?_, fun r hr => ?_⟩
    · rw [← S.held1 hr]
      exact h r (S.mem.mpr (Or.inl hr))
    · rw [← S.held2 hr]
      exact h r (S.mem.mpr (Or.inr hr))
  · rintro ⟨h1, h2⟩ r hr
    rcases S.mem.mp hr with h | h
    · rw [S.held1 h]
      exact h1 r h
    · rw [S.held2 h]
      exact h2 r h
/-- of the other one what f2 says, else what f1 says -/
def mix (other : List (Row α)) (f1 f2 : α → Nat) : α → Nat := fun z => if z ∈ other.map (fun r => r.1) then f2 z else f1 z
theorem mix2 {q : Row α} (hq : q ∈ other) : mix other f1 f2 q.1 = f2 q.1 := if_pos (List.mem_map.mpr ⟨q, hq, rfl⟩)
theorem Side.mix1 (S : Side one other B) {r : Row α} (hr : r ∈ one) : mix other f1 f2 r.1 = f1 r.1 := if_neg fun h => by
  obtain ⟨q, hq, e⟩ := List.mem_map.mp h
  exact S.dis r hr q hq e.symm
theorem held_eq {qs : List (Row α)} (h : ∀ r ∈ qs, f r.1 = g r.1) {r : Row α} (hr : r ∈ qs) : held qs c f r = held qs c g r := by
  unfold held
  rw [got_congr h, h r hr]
theorem within_eq {qs : List (Row α)} (h : ∀ r ∈ qs, f r.1 = g r.1) (w : Within qs f) : Within qs g := fun r hr => by
  rw [← h r hr]
  exact w r hr
theorem stable_eq {qs : List (Row α)} (h : ∀ r ∈ qs, f r.1 = g r.1) (s : Stable qs c f) : Stable qs c g := fun r hr x hx => by
  rw [← h r hr] at hx
  rw [← held_eq h hr]
  exact s r hr x hx
theorem feas_eq {qs : List (Row α)} (h : ∀ r ∈ qs, f r.1 = g r.1) (s : Feas qs c f) : Feas qs c g := fun r hr => by
  rw [← held_eq h hr]
  exact s r hr
theorem leq_eq {qs : List (Row α)} {f' g' : α → Nat} (h : ∀ r ∈ qs, f r.1 = g r.1) (h' : ∀ r ∈ qs, f' r.1 = g' r.1) (s : Leq qs f f') : Leq qs g g' := fun r hr => by
  rw [← h r hr, ← h' r hr]
  exact s r hr
theorem Side.e1 (S : Side one other B) : ∀ r ∈ one, f1 r.1 = mix other f1 f2 r.1 := fun r hr => (S.mix1 hr).symm
theorem Side.e2 : ∀ r ∈ other, f2 r.1 = mix other f1 f2 r.1 := fun r hr => (mix2 hr).symm
theorem Side.least (S : Side one other B) (h1 : Least one c f1) (h2 : Least other c f2) : Least B c (mix other f1 f2) := by
  refine ⟨⟨S.within.mpr ⟨within_eq S.e1 h1.1.1, within_eq Side.e2 h2.1.1⟩, fun g wg sg => ?_⟩, S.stable.mpr ⟨stable_eq S.e1 h1.2, stable_eq Side.e2 h2.2⟩⟩
  obtain ⟨w1, w2⟩ := S.within.mp wg
  obtain ⟨s1, s2⟩ := S.stable.mp sg
  exact S.leq.mpr ⟨leq_eq S.e1 (fun _ _ => rfl) (h1.1.2 g w1 s1), leq_eq Side.e2 (fun _ _ => rfl) (h2.1.2 g w2 s2)⟩
theorem Side.great (S : Side one other B) (h1 : Great one c f1) (h2 : Great other c f2) : Great B c (mix other f1 f2) := by
  refine ⟨⟨S.within.mpr ⟨within_eq S.e1 h1.1.1, within_eq Side.e2 h2.1.1⟩, fun g wg sg => ?_⟩, S.feas.mpr ⟨feas_eq S.e1 h1.2, feas_eq Side.e2 h2.2⟩⟩
  obtain ⟨w1, w2⟩ := S.within.mp wg
  obtain ⟨s1, s2⟩ := S.feas.mp sg
  exact S.leq.mpr ⟨leq_eq (fun _ _ => rfl) S.e1 (h1.1.2 g w1 s1), leq_eq (fun _ _ => rfl) Side.e2 (h2.1.2 g w2 s2)⟩
theorem Side.opt (S : Side one other B) {m : Bool} (h1 : Opt m one c f1) (h2 : Opt m other c f2) : Opt m B c (mix other f1 f2) := by
  cases m
  · exact S.great h1 h2
  · exact S.least h1 h2
theorem Side.good (S : Side one other B) : Good B := by
  refine ⟨?_, fun r hr => (S.mem.mp hr).elim (S.g1.pos r) (S.g2.pos r)⟩
  have hp := S.perm.map fun r : Row α => r.1
  rw [hp.nodup_iff, List.map_append, List.nodup_append]
  refine ⟨S.g1.nd, S.g2.nd, fun a ha b hb e => ?_⟩
  obtain ⟨r, hr, rfl⟩ := List.mem_map.mp ha
  obtain ⟨q, hq, rfl⟩ := List.mem_map.mp hb
  exact S.dis r hr q hq e
/-- reached in both: reached on either side -/
theorem Side.reach (S : Side one other B) : Reach B c gl ↔ Reach one c gl ∧ Reach other c gl := by
  constructor
  · intro h
    refine ⟨fun g w s => ?_, fun g w s => ?_⟩
    · have full : ∀ r ∈ other, lenOf other r.1 = r.2.2.length := fun r hr => lenOf_at S.g2.nd hr
      have := h (mix other g (lenOf other)) (S.within.mpr ⟨within_eq S.e1 w, within_eq Side.e2 fun r hr => Nat.le_of_eq (full r hr)⟩) (S.stable.mpr ⟨stable_eq S.e1 s, stable_eq Side.e2 (all_stable full)⟩)
      exact leq_eq (fun _ _ => rfl) (fun r hr => S.mix1 hr) (S.leq.mp this).1
    · have full : ∀ r ∈ one, lenOf one r.1 = r.2.2.length := fun r hr => lenOf_at S.g1.nd hr
      have := h (mix other (lenOf one) g) (S.within.mpr ⟨within_eq S.e1 fun r hr => Nat.le_of_eq (full r hr), within_eq Side.e2 w⟩) (S.stable.mpr ⟨stable_eq S.e1 (all_stable full), stable_eq Side.e2 s⟩)
      exact leq_eq (fun _ _ => rfl) (fun r hr => mix2 hr) (S.leq.mp this).2
  · rintro ⟨h1, h2⟩ g w s
    obtain ⟨w1, w2⟩ := S.within.mp w
    obtain ⟨s1, s2⟩ := S.stable.mp s
    exact S.leq.mpr ⟨h1 g w1 s1, h2 g w2 s2⟩
theorem reach_same {qs : List (Row α)} (h : ∀ r ∈ qs, c r.1 = d r.1) (hg : ∀ r ∈ qs, f r.1 = g r.1) : Reach qs c f ↔ Reach qs d g :=
  ⟨fun k u w s => leq_eq hg (fun _ _ => rfl) (k u w (stable_less (fun r hr => Int.le_of_eq (h r hr)) s)), fun k u w s => leq_eq (fun r hr => (hg r hr).symm) (fun _ _ => rfl) (k u w (stable_less (fun r hr => Int.le_of_eq (h r hr).symm) s))⟩
/-- what a house of the one needs -/
theorem Side.need (S : Side one other B) {r : Row α} (hr : r ∈ one) {u : Int} : Reach B (setC c r.1 u) gl ↔ Reach one (setC c r.1 u) gl ∧ Reach other c gl := by
  rw [S.reach]
  refine and_congr Iff.rfl (reach_same (fun q hq => setC_ne fun e => S.dis r hr q hq e.symm) fun _ _ => rfl)
theorem Side.pair (S : Side one other B) {r q : Row α} (hr : r ∈ one) (hq : q ∈ other) {x y : Int} : Both B c r.1 q.1 gl x y ↔ Reach one (setC c r.1 x) gl ∧ Reach other (setC c q.1 y) gl := by
  unfold Both
  rw [S.need hr]
  exact and_congr (reach_same (fun p hp => by
    unfold setC
    split
    · rfl
    · rw [if_neg (S.dis p hp q hq)]) fun _ _ => rfl) Iff.rfl
theorem Side.mates (S : Side one other B) {r q : Row α} (hr : r ∈ other) (hq : q ∈ other) {x y : Int} : Both B c r.1 q.1 gl x y ↔ Reach one c gl ∧ Both other c r.1 q.1 gl x y := by
  unfold Both
  rw [S.swap.need hr, And.comm]
  refine and_congr (reach_same (fun p hp => setC_ne (S.dis p hp q hq)) fun _ _ => rfl) Iff.rfl
/-! ### steps mixed -/
inductive Mixed : List α → List α → List α → Prop where
  | nil : Mixed [] [] []
  | one {a : α} {xs ys zs : List α} : Mixed xs ys zs → Mixed (a :: xs) ys (a :: zs)
  | other {a : α} {xs ys zs : List α} : Mixed xs ys zs → Mixed xs (a :: ys) (a :: zs)
theorem Side.bump1 (S : Side one other B) {r : Row α} (hr : r ∈ one) : bump (mix other f1 f2) r.1 = mix other (bump f1 r.1) f2 := by
  funext z
  unfold bump mix
  by_cases h : z = r.1
  · have hn : r.1 ∉ other.map fun r => r.1 := fun h => by
      obtain ⟨q, hq, e⟩ := List.mem_map.mp h
      exact S.dis r hr q hq e.symm
    subst h
    rw [if_pos rfl, if_neg hn, if_neg hn]
    exact (if_pos rfl).symm
  · rw [if_neg h]
    split
    · rfl
    · exact (if_neg h).symm
theorem Side.drop1 (S : Side one other B) {r : Row α} (hr : r ∈ one) : drop (mix other f1 f2) r.1 = mix other (drop f1 r.1) f2 := by
  funext z
  unfold drop mix
  by_cases h : z = r.1
  · have hn : r.1 ∉ other.map fun r => r.1 := fun h => by
      obtain ⟨q, hq, e⟩ := List.mem_map.mp h
      exact S.dis r hr q hq e.symm
    subst h
    rw [if_pos rfl, if_neg hn, if_neg hn]
    exact (if_pos rfl).symm
  · rw [if_neg h]
    split
    · rfl
    · exact (if_neg h).symm
theorem bump2 {r : Row α} (hr : r ∈ other) : bump (mix other f1 f2) r.1 = mix other f1 (bump f2 r.1) := by
  funext z
  have hn : r.1 ∈ other.map fun r => r.1 := List.mem_map.mpr ⟨r, hr, rfl⟩
  unfold bump mix
  by_cases h : z = r.1
  · subst h
    rw [if_pos rfl, if_pos hn, if_pos hn]
    exact (if_pos rfl).symm
  · rw [if_neg h]
    split
    · exact (if_neg h).symm
    · rfl
theorem drop2 {r : Row α} (hr : r ∈ other) : drop (mix other f1 f2) r.1 = mix other f1 (drop f2 r.1) := by
  funext z
  have hn : r.1 ∈ other.map fun r => r.1 := List.mem_map.mpr ⟨r, hr, rfl⟩
  unfold drop mix
  by_cases h : z = r.1
  · subst h
    rw [if_pos rfl, if_pos hn, if_pos hn]
    exact (if_pos rfl).symm
  · rw [if_neg h]
    split
    · exact (if_neg h).symm
    · rfl
theorem Side.steps (S : Side one other B) {xs ys zs : List α} (m : Mixed xs ys zs) : ∀ {f1 f2 : α → Nat}, Steps one c f1 xs g1 → Steps other c f2 ys g2 → Steps B c (mix other f1 f2) zs (mix other g1 g2) := by
  induction m with
  | nil =>
    intro f1 f2 h1 h2
    cases h1
    cases h2
    rfl
  | one m ih =>
    rintro f1 f2 ⟨r, hr, rfl, x, hx, hp, h1⟩ h2
    refine ⟨r, S.mem.mpr (Or.inl hr), rfl, x, by rw [S.mix1 hr]; exact hx, ?_, ?_⟩
    · rw [S.held1 hr, held_eq (fun q hq => (S.e1 q hq).symm) hr]
      exact hp
    · rw [S.bump1 hr]
      exact ih h1 h2
  | other m ih =>
    rintro f1 f2 h1 ⟨r, hr, rfl, x, hx, hp, h2⟩
    refine ⟨r, S.mem.mpr (Or.inr hr), rfl, x, by rw [mix2 hr]; exact hx, ?_, ?_⟩
    · rw [S.held2 hr, held_eq (fun q hq => (Side.e2 q hq).symm) hr]
      exact hp
    · rw [bump2 hr]
      exact ih h1 h2
theorem Side.backs (S : Side one other B) {xs ys zs : List α} (m : Mixed xs ys zs) : ∀ {f1 f2 : α → Nat}, Backs one c f1 xs g1 → Backs other c f2 ys g2 → Backs B c (mix other f1 f2) zs (mix other g1 g2) := by
  induction m with
  | nil =>
    intro f1 f2 h1 h2
    cases h1
    cases h2
    rfl
  | one m ih =>
    rintro f1 f2 ⟨r, hr, rfl, hx, hp, h1⟩ h2
    refine ⟨r, S.mem.mpr (Or.inl hr), rfl, by rw [S.mix1 hr]; exact hx, ?_, ?_⟩
    · rw [S.held1 hr, held_eq (fun q hq => (S.e1 q hq).symm) hr]
      exact hp
    · rw [S.drop1 hr]
      exact ih h1 h2
  | other m ih =>
    rintro f1 f2 h1 ⟨r, hr, rfl, hx, hp, h2⟩
    refine ⟨r, S.mem.mpr (Or.inr hr), rfl, by rw [mix2 hr]; exact hx, ?_, ?_⟩
    · rw [S.held2 hr, held_eq (fun q hq => (Side.e2 q hq).symm) hr]
      exact hp
    · rw [drop2 hr]
      exact ih h1 h2
/-- a walk never leaves a house with less than nothing -/
theorem Steps.feas {qs : List (Row α)} (G : Good qs) : ∀ {s : List α} {f : α → Nat}, Steps qs c f s g → Feas qs c f → Feas qs c g
  | [], f, h, k => by
    cases h
    exact k
  | _ :: s, f, ⟨r, hr, rfl, x, hx, hp, h⟩, k => Steps.feas G h fun q hq => by
    rw [held_bump G.nd hr hq hx]
    have h0 := k q hq
    have h1 := G.pos r hr x (List.mem_of_getElem? hx)
    by_cases eq : q.1 = r.1
    · have := row_eq G.nd hq hr eq
      subst this
      rw [if_pos rfl]
      split <;> omega
    · rw [if_neg eq]
      split <;> omega
theorem feas_zero {qs : List (Row α)} (h : ∀ r ∈ qs, 0 ≤ c r.1) : Feas qs c (fun _ => 0) := fun r hr => by
  unfold held outS got inS
  have e : (qs.map fun r => ((r.2.2.take 0).map fun x => if x.1 = r.1 then x.2 else 0).sum) = qs.map fun _ => (0 : Int) := rfl
  have h0 : (qs.map fun q : Row α => ((q.2.2.take 0).map fun x => if x.1 = r.1 then x.2 else 0).sum).sum = 0 := sum_zero fun x hx => by
    obtain ⟨q, _, rfl⟩ := List.mem_map.mp hx
    rfl
  rw [h0]
  have := h r hr
  show 0 ≤ c r.1 - 0 + 0
  omega
theorem feas_least {qs : List (Row α)} (G : Good qs) (h : ∀ r ∈ qs, 0 ≤ c r.1) {s : List α} (hs : Steps qs c (fun _ => 0) s f) : Feas qs c f := Steps.feas G hs (feas_zero h)
/-- a house with all the cash that it owes pays all -/
theorem full_of {qs : List (Row α)} (G : Good qs) (w : Within qs f) (s : Stable qs c f) {r : Row α} (hr : r ∈ qs) (h : outAll r ≤ c r.1) : f r.1 = r.2.2.length := by
  have hw := w r hr
  by_cases e : f r.1 = r.2.2.length
  · exact e
  · exfalso
    have hx : r.2.2[f r.1]? = some (r.2.2[f r.1]'(by omega)) := List.getElem?_eq_getElem _
    have h1 := s r hr _ hx
    have h2 := outS_mono (G.pos r hr) (k := f r.1 + 1) (m := r.2.2.length) (by omega)
    rw [outS_succ hx] at h2
    have h3 := got_nonneg G f r.1
    unfold held at h1
    unfold outAll at h
    omega
end KQ
namespace KQ
variable {α : Type} [DecidableEq α]
/-! ### a house that pays all through a new house -/
def toF (F : α) (p : List (α × Int)) : List (α × Int) := p.map fun x => (F, x.2)
theorem toF_at {F : α} {p : List (α × Int)} {k : Nat} {x : α × Int} (h : (toF F p)[k]? = some x) : ∃ y, p[k]? = some y ∧ x.2 = y.2 := by
  unfold toF at h
  rw [List.getElem?_map] at h
  cases e : p[k]? with
  | none =>
    rw [e] at h
    cases h
  | some y =>
    rw [e] at h
    exact ⟨y, rfl, by rw [← Option.some.inj h]⟩
theorem toF_of {F : α} {p : List (α × Int)} {k : Nat} {y : α × Int} (h : p[k]? = some y) : (toF F p)[k]? = some (F, y.2) := by
  unfold toF
  rw [List.getElem?_map, h]
  rfl
theorem toF_out (F : α) (p : List (α × Int)) (k : Nat) : outS (toF F p) k = outS p k := by
  unfold outS toF
  rw [← List.map_take, List.map_map]
  rfl
theorem toF_in (F z : α) (p : List (α × Int)) (k : Nat) : inS (toF F p) k z = if F = z then outS p k else 0 := by
  unfold inS toF
  rw [← List.map_take, List.map_map]
  by_cases h : F = z
  · rw [if_pos h]
    unfold outS
    congr 1
    refine List.map_congr_left fun x _ => ?_
    show (if F = z then x.2 else 0) = x.2
    rw [if_pos h]
  · rw [if_neg h]
    refine sum_zero fun x hx => ?_
    obtain ⟨y, _, rfl⟩ := List.mem_map.mp hx
    show (if F = z then y.2 else 0) = 0
    rw [if_neg h]
theorem got_cons (r : Row α) (qs : List (Row α)) (f : α → Nat) (z : α) : got (r :: qs) f z = inS r.2.2 (f r.1) z + got qs f z := by
  unfold got
  rw [List.map_cons, List.sum_cons]
theorem inS_none {p : List (α × Int)} {z : α} (h : ∀ x ∈ p, x.1 ≠ z) (k : Nat) : inS p k z = 0 := by
  unfold inS
  refine sum_zero fun x hx => ?_
  obtain ⟨y, hy, rfl⟩ := List.mem_map.mp hx
  exact if_neg (h y (List.mem_of_mem_take hy))
structure Thru (qs B rest : List (Row α)) (r0 : Row α) (F : α) (u w : Int) : Prop where
  pq : qs.Perm (r0 :: rest)
  pB : B.Perm ((F, u, r0.2.2) :: (r0.1, w, toF F r0.2.2) :: rest)
  G : Good qs
  fr : ∀ r ∈ qs, r.1 ≠ F
  inn : ∀ r ∈ qs, ∀ x ∈ r.2.2, x.1 ≠ F
def ext (F : α) (k : Nat) (f : α → Nat) : α → Nat := fun z => if z = F then k else f z
variable {qs B rest : List (Row α)} {r0 : Row α} {F : α} {u w : Int} {c d : α → Int} {f g gl : α → Nat}
theorem ext_F {k : Nat} : ext F k f F = k := if_pos rfl
theorem ext_ne {k : Nat} {z : α} (h : z ≠ F) : ext F k f z = f z := if_neg h
theorem Thru.r0m (T : Thru qs B rest r0 F u w) : r0 ∈ qs := T.pq.mem_iff.mpr List.mem_cons_self
theorem Thru.rm (T : Thru qs B rest r0 F u w) {r : Row α} (h : r ∈ rest) : r ∈ qs := T.pq.mem_iff.mpr (List.mem_cons_of_mem _ h)
theorem Thru.memQ (T : Thru qs B rest r0 F u w) {r : Row α} : r ∈ qs ↔ r = r0 ∨ r ∈ rest := by rw [T.pq.mem_iff, List.mem_cons]
theorem Thru.memB (T : Thru qs B rest r0 F u w) {r : Row α} : r ∈ B ↔ r = (F, u, r0.2.2) ∨ r = (r0.1, w, toF F r0.2.2) ∨ r ∈ rest := by rw [T.pB.mem_iff, List.mem_cons, List.mem_cons]
theorem Thru.ndQ (T : Thru qs B rest r0 F u w) : r0.1 ∉ rest.map (fun r => r.1) ∧ (rest.map fun r => r.1).Nodup := by
  have := (T.pq.map fun r : Row α => r.1).nodup_iff.mp T.G.nd
  exact List.nodup_cons.mp this
theorem Thru.ne0 (T : Thru qs B rest r0 F u w) {r : Row α} (h : r ∈ rest) : r.1 ≠ r0.1 := fun e => T.ndQ.1 (List.mem_map.mpr ⟨r, h, e⟩)
theorem Thru.good (T : Thru qs B rest r0 F u w) : Good B := by
  refine ⟨?_, fun r hr => ?_⟩
  · rw [(T.pB.map fun r : Row α => r.1).nodup_iff]
    refine List.nodup_cons.mpr ⟨fun h => ?_, List.nodup_cons.mpr T.ndQ⟩
    rcases List.mem_cons.mp h with e | e
    · exact T.fr r0 T.r0m e.symm
    · obtain ⟨r, hr, e2⟩ := List.mem_map.mp e
      exact T.fr r (T.rm hr) e2
  · rcases T.memB.mp hr with rfl | rfl | h
    · exact T.G.pos r0 T.r0m
    · intro x hx
      obtain ⟨y, hy, rfl⟩ := List.mem_map.mp hx
      exact T.G.pos r0 T.r0m y hy
    · exact T.G.pos r (T.rm h)
theorem Thru.gotQ (T : Thru qs B rest r0 F u w) (z : α) : got qs f z = inS r0.2.2 (f r0.1) z + got rest f z := by rw [got_perm T.pq, got_cons]
theorem Thru.gotB (T : Thru qs B rest r0 F u w) {z : α} (h : z ≠ F) : got B f z = inS r0.2.2 (f F) z + got rest f z := by
  rw [got_perm T.pB, got_cons, got_cons]
  show inS r0.2.2 (f F) z + (inS (toF F r0.2.2) (f r0.1) z + got rest f z) = _
  rw [toF_in, if_neg fun e => h e.symm]
  omega
theorem Thru.gotF (T : Thru qs B rest r0 F u w) : got B f F = outS r0.2.2 (f r0.1) := by
  rw [got_perm T.pB, got_cons, got_cons]
  show inS r0.2.2 (f F) F + (inS (toF F r0.2.2) (f r0.1) F + got rest f F) = _
  rw [toF_in, if_pos rfl, inS_none (T.inn r0 T.r0m), got_none fun r hr => T.inn r (T.rm hr)]
  omega
theorem Thru.heldQ (T : Thru qs B rest r0 F u w) {r : Row α} : held qs c f r = c r.1 - outS r.2.2 (f r.1) + (inS r0.2.2 (f r0.1) r.1 + got rest f r.1) := by
  unfold held
  rw [T.gotQ]
theorem Thru.heldB (T : Thru qs B rest r0 F u w) {r : Row α} (h : r.1 ≠ F) : held B c f r = c r.1 - outS r.2.2 (f r.1) + (inS r0.2.2 (f F) r.1 + got rest f r.1) := by
  unfold held
  rw [T.gotB h]
theorem Thru.heldH (T : Thru qs B rest r0 F u w) : held B c f (r0.1, w, toF F r0.2.2) = c r0.1 - outS r0.2.2 (f r0.1) + (inS r0.2.2 (f F) r0.1 + got rest f r0.1) := by
  rw [T.heldB (r := (r0.1, w, toF F r0.2.2)) (T.fr r0 T.r0m)]
  show c r0.1 - outS (toF F r0.2.2) (f r0.1) + _ = _
  rw [toF_out]
theorem Thru.heldF (T : Thru qs B rest r0 F u w) : held B c f (F, u, r0.2.2) = c F - outS r0.2.2 (f F) + outS r0.2.2 (f r0.1) := by
  unfold held
  rw [T.gotF]
theorem got_rest (h : ∀ r ∈ rest, f r.1 = g r.1) (z : α) : got rest f z = got rest g z := got_congr h z
theorem outS_lt {p : List (α × Int)} (hp : ∀ x ∈ p, 1 ≤ x.2) {k m : Nat} (h : k < m) (hm : m ≤ p.length) : outS p k < outS p m := by
  have hx : p[k]? = some (p[k]'(by omega)) := List.getElem?_eq_getElem _
  have h1 := outS_mono hp (k := k + 1) (m := m) (by omega)
  rw [outS_succ hx] at h1
  have := hp _ (List.getElem_mem (by omega : k < p.length))
  omega
/-- where the new house is stable it has paid as much as its payer -/
theorem Thru.on (T : Thru qs B rest r0 F u w) (cF : c F = 0) (wg : Within B g) (sg : Stable B c g) : g r0.1 ≤ g F := by
  have hF : ((F, u, r0.2.2) : Row α) ∈ B := T.memB.mpr (Or.inl rfl)
  have wF := wg _ hF
  have wF : g F ≤ r0.2.2.length := wF
  have wH : g r0.1 ≤ (toF F r0.2.2).length := wg _ (T.memB.mpr (Or.inr (Or.inl rfl)))
  have wH : g r0.1 ≤ r0.2.2.length := by
    unfold toF at wH
    rw [List.length_map] at wH
    exact wH
  by_cases h : g r0.1 ≤ g F
  · exact h
  · exfalso
    have hx : r0.2.2[g F]? = some (r0.2.2[g F]'(by omega)) := List.getElem?_eq_getElem _
    have h1 := sg _ hF _ hx
    rw [T.heldF, cF] at h1
    have h2 := outS_mono (T.G.pos r0 T.r0m) (k := g F + 1) (m := g r0.1) (by omega)
    rw [outS_succ hx] at h2
    omega
theorem Thru.off (T : Thru qs B rest r0 F u w) (cF : c F = 0) (wg : Within B g) (sg : Feas B c g) : g F ≤ g r0.1 := by
  have hF : ((F, u, r0.2.2) : Row α) ∈ B := T.memB.mpr (Or.inl rfl)
  have wF : g F ≤ r0.2.2.length := wg _ hF
  have h1 := sg _ hF
  rw [T.heldF, cF] at h1
  by_cases h : g F ≤ g r0.1
  · exact h
  · exfalso
    have := outS_lt (T.G.pos r0 T.r0m) (show g r0.1 < g F by omega) wF
    omega
theorem Thru.within (T : Thru qs B rest r0 F u w) (wg : Within B g) : Within qs g := fun r hr => by
  rcases T.memQ.mp hr with rfl | h
  · have wH : g r.1 ≤ (toF F r.2.2).length := wg _ (T.memB.mpr (Or.inr (Or.inl rfl)))
    unfold toF at wH
    rw [List.length_map] at wH
    exact wH
  · exact wg r (T.memB.mpr (Or.inr (Or.inr h)))
theorem Thru.extW (T : Thru qs B rest r0 F u w) (wf : Within qs f) : Within B (ext F (f r0.1) f) := fun r hr => by
  rcases T.memB.mp hr with rfl | rfl | h
  · show ext F (f r0.1) f F ≤ _
    rw [ext_F]
    exact wf r0 T.r0m
  · show ext F (f r0.1) f r0.1 ≤ (toF F r0.2.2).length
    rw [ext_ne (T.fr r0 T.r0m)]
    unfold toF
    rw [List.length_map]
    exact wf r0 T.r0m
  · rw [ext_ne (T.fr r (T.rm h))]
    exact wf r (T.rm h)
theorem Thru.restE (T : Thru qs B rest r0 F u w) {k : Nat} : ∀ r ∈ rest, ext F k f r.1 = f r.1 := fun r hr => ext_ne (T.fr r (T.rm hr))
theorem Thru.heldE (T : Thru qs B rest r0 F u w) {r : Row α} (h : r ∈ rest) : held B c (ext F (f r0.1) f) r = held qs c f r := by
  rw [T.heldB (T.fr r (T.rm h)), T.heldQ, ext_F, ext_ne (T.fr r (T.rm h)), got_rest T.restE]
theorem Thru.heldEH (T : Thru qs B rest r0 F u w) : held B c (ext F (f r0.1) f) (r0.1, w, toF F r0.2.2) = held qs c f r0 := by
  rw [T.heldH, T.heldQ, ext_F, ext_ne (T.fr r0 T.r0m), got_rest T.restE]
theorem Thru.heldEF (T : Thru qs B rest r0 F u w) (cF : c F = 0) : held B c (ext F (f r0.1) f) (F, u, r0.2.2) = 0 := by
  rw [T.heldF, ext_F, ext_ne (T.fr r0 T.r0m), cF]
  omega
theorem Thru.extS (T : Thru qs B rest r0 F u w) (cF : c F = 0) (sf : Stable qs c f) : Stable B c (ext F (f r0.1) f) := fun r hr x hx => by
  rcases T.memB.mp hr with rfl | rfl | h
  · rw [T.heldEF cF]
    have := T.G.pos r0 T.r0m x (List.mem_of_getElem? hx)
    omega
  · rw [T.heldEH]
    have hx : (toF F r0.2.2)[ext F (f r0.1) f r0.1]? = some x := hx
    rw [ext_ne (T.fr r0 T.r0m)] at hx
    obtain ⟨y, hy, e⟩ := toF_at hx
    rw [e]
    exact sf r0 T.r0m y hy
  · rw [T.heldE h]
    rw [ext_ne (T.fr r (T.rm h))] at hx
    exact sf r (T.rm h) x hx
theorem Thru.extFe (T : Thru qs B rest r0 F u w) (cF : c F = 0) (sf : Feas qs c f) : Feas B c (ext F (f r0.1) f) := fun r hr => by
  rcases T.memB.mp hr with rfl | rfl | h
  · rw [T.heldEF cF]
    omega
  · rw [T.heldEH]
    exact sf r0 T.r0m
  · rw [T.heldE h]
    exact sf r (T.rm h)
theorem Thru.stable (T : Thru qs B rest r0 F u w) (cF : c F = 0) (wg : Within B g) (sg : Stable B c g) : Stable qs c g := fun r hr x hx => by
  have hon := T.on cF wg sg
  have hin := fun z => inS_mono (T.G.pos r0 T.r0m) z hon
  rcases T.memQ.mp hr with rfl | h
  · have h1 := sg _ (T.memB.mpr (Or.inr (Or.inl rfl))) _ (toF_of (F := F) hx)
    rw [T.heldH] at h1
    rw [T.heldQ]
    have := hin r.1
    have h1 : _ < x.2 := h1
    omega
  · have h1 := sg r (T.memB.mpr (Or.inr (Or.inr h))) x hx
    rw [T.heldB (T.fr r hr)] at h1
    rw [T.heldQ]
    have := hin r.1
    omega
theorem Thru.leq (T : Thru qs B rest r0 F u w) (h : Leq qs f g) (h0 : f r0.1 ≤ g F) : Leq B (ext F (f r0.1) f) g := fun r hr => by
  rcases T.memB.mp hr with rfl | rfl | hm
  · show ext F (f r0.1) f F ≤ g F
    rw [ext_F]
    exact h0
  · show ext F (f r0.1) f r0.1 ≤ g r0.1
    rw [ext_ne (T.fr r0 T.r0m)]
    exact h r0 T.r0m
  · rw [ext_ne (T.fr r (T.rm hm))]
    exact h r (T.rm hm)
theorem Thru.leq' (T : Thru qs B rest r0 F u w) (h : Leq B (ext F (f r0.1) f) g) : Leq qs f g := fun r hr => by
  rcases T.memQ.mp hr with rfl | hm
  · have := h _ (T.memB.mpr (Or.inr (Or.inl rfl)))
    have this : ext F (f r.1) f r.1 ≤ g r.1 := this
    rw [ext_ne (T.fr r T.r0m)] at this
    exact this
  · have := h r (T.memB.mpr (Or.inr (Or.inr hm)))
    rw [ext_ne (T.fr r (T.rm hm))] at this
    exact this
theorem Thru.least (T : Thru qs B rest r0 F u w) (cF : c F = 0) (h : Least qs c f) : Least B c (ext F (f r0.1) f) := by
  refine ⟨⟨T.extW h.1.1, fun g wg sg => ?_⟩, T.extS cF h.2⟩
  have hl := h.1.2 g (T.within wg) (T.stable cF wg sg)
  exact T.leq hl (Nat.le_trans (hl r0 T.r0m) (T.on cF wg sg))
theorem Thru.reach (T : Thru qs B rest r0 F u w) (cF : c F = 0) : Reach B c (ext F (gl r0.1) gl) ↔ Reach qs c gl := by
  constructor
  · intro h g wg sg
    have := T.leq' (h _ (T.extW wg) (T.extS cF sg))
    exact fun r hr => by
      have h1 := this r hr
      rw [ext_ne (T.fr r hr)] at h1
      exact h1
  · intro h g wg sg
    have hl := h g (T.within wg) (T.stable cF wg sg)
    exact T.leq hl (Nat.le_trans (hl r0 T.r0m) (T.on cF wg sg))
theorem Thru.feas1 (T : Thru qs B rest r0 F u w) (cF : c F = 0) (wg : Within B g) (sg : Feas B c g) : Feas qs c g := fun r hr => by
  have hoff := T.off cF wg sg
  have hin := inS_mono (T.G.pos r0 T.r0m) r.1 hoff
  rcases T.memQ.mp hr with rfl | h
  · have h1 := sg _ (T.memB.mpr (Or.inr (Or.inl rfl)))
    rw [T.heldH] at h1
    rw [T.heldQ]
    omega
  · have h1 := sg r (T.memB.mpr (Or.inr (Or.inr h)))
    rw [T.heldB (T.fr r hr)] at h1
    rw [T.heldQ]
    omega
theorem Thru.great (T : Thru qs B rest r0 F u w) (cF : c F = 0) (h : Great qs c f) : Great B c (ext F (f r0.1) f) := by
  refine ⟨⟨T.extW h.1.1, fun g wg sg => ?_⟩, T.extFe cF h.2⟩
  have hl := h.1.2 g (T.within wg) (T.feas1 cF wg sg)
  have hoff := T.off cF wg sg
  intro r hr
  rcases T.memB.mp hr with rfl | rfl | hm
  · show g F ≤ ext F (f r0.1) f F
    rw [ext_F]
    exact Nat.le_trans hoff (hl r0 T.r0m)
  · show g r0.1 ≤ ext F (f r0.1) f r0.1
    rw [ext_ne (T.fr r0 T.r0m)]
    exact hl r0 T.r0m
  · rw [ext_ne (T.fr r (T.rm hm))]
    exact hl r (T.rm hm)
theorem Thru.opt (T : Thru qs B rest r0 F u w) (cF : c F = 0) {m : Bool} (h : Opt m qs c f) : Opt m B c (ext F (f r0.1) f) := by
  cases m
  · exact T.great cF h
  · exact T.least cF h
/-- each step of the house goes on -/
def goOn (h F : α) (ws : List α) : List α := ws.flatMap fun n => if n = h then [n, F] else [n]
theorem goOn_cons (h F n : α) (ws : List α) : goOn h F (n :: ws) = (if n = h then [n, F] else [n]) ++ goOn h F ws := by
  unfold goOn
  rw [List.flatMap_cons]
theorem goOn_snoc (h F n : α) (ws : List α) : goOn h F (ws ++ [n]) = goOn h F ws ++ (if n = h then [n, F] else [n]) := by
  unfold goOn
  rw [List.flatMap_append, List.flatMap_cons, List.flatMap_nil, List.append_nil]
theorem Thru.steps (T : Thru qs B rest r0 F u w) (cF : c F = 0) : ∀ {ws : List α} {f : α → Nat}, Steps qs c f ws g → Steps B c (ext F (f r0.1) f) (goOn r0.1 F ws) (ext F (g r0.1) g)
  | [], f, h => by
    cases h
    rfl
  | _ :: ws, f, ⟨r, hr, rfl, x, hx, hp, h⟩ => by
    have ih := T.steps cF h
    rw [goOn_cons]
    rcases T.memQ.mp hr with rfl | hm
    · rw [if_pos rfl]
      refine ⟨_, T.memB.mpr (Or.inr (Or.inl rfl)), rfl, (F, x.2), ?_, ?_, ?_⟩
      · show (toF F r.2.2)[ext F (f r.1) f r.1]? = _
        rw [ext_ne (T.fr r T.r0m)]
        exact toF_of hx
      · rw [T.heldEH]
        exact hp
      · have e1 : bump (ext F (f r.1) f) r.1 = ext F (f r.1) (bump f r.1) := by
          funext z
          unfold bump ext
          by_cases h : z = r.1
          · rw [if_pos h, if_neg (by rw [h]; exact T.fr r T.r0m), if_neg (by rw [h]; exact T.fr r T.r0m)]
            exact (if_pos h).symm
          · rw [if_neg h]
            split
            · rfl
            · exact (if_neg h).symm
        have e2 : bump (ext F (f r.1) (bump f r.1)) F = ext F (bump f r.1 r.1) (bump f r.1) := by
          funext z
          unfold ext
          by_cases h : z = F
          · show (if z = F then (if z = F then f r.1 else bump f r.1 z) + 1 else if z = F then f r.1 else bump f r.1 z) = _
            rw [if_pos h, if_pos h, if_pos h, bump_same]
          · show (if z = F then (if z = F then f r.1 else bump f r.1 z) + 1 else if z = F then f r.1 else bump f r.1 z) = _
            rw [if_neg h, if_neg h, if_neg h]
        show Steps B c (bump (ext F (f r.1) f) r.1) ([F] ++ goOn r.1 F ws) _
        rw [e1]
        refine ⟨_, T.memB.mpr (Or.inl rfl), rfl, x, ?_, ?_, ?_⟩
        · show r.2.2[ext F (f r.1) (bump f r.1) F]? = some x
          rw [ext_F]
          exact hx
        · rw [T.heldF, ext_F, ext_ne (T.fr r T.r0m), bump_same, cF, outS_succ hx]
          omega
        · show Steps B c (bump (ext F (f r.1) (bump f r.1)) F) (goOn r.1 F ws) _
          rw [e2]
          exact ih
    · have hne := T.ne0 hm
      rw [if_neg hne]
      refine ⟨r, T.memB.mpr (Or.inr (Or.inr hm)), rfl, x, ?_, ?_, ?_⟩
      · rw [ext_ne (T.fr r hr)]
        exact hx
      · rw [T.heldE hm]
        exact hp
      · have e1 : bump (ext F (f r0.1) f) r.1 = ext F (bump f r.1 r0.1) (bump f r.1) := by
          rw [bump_ne hne.symm]
          funext z
          unfold bump ext
          by_cases h : z = r.1
          · rw [if_pos h, if_neg (by rw [h]; exact T.fr r hr), if_neg (by rw [h]; exact T.fr r hr)]
            exact (if_pos h).symm
          · rw [if_neg h]
            split
            · rfl
            · exact (if_neg h).symm
        show Steps B c (bump (ext F (f r0.1) f) r.1) (goOn r0.1 F ws) _
        rw [e1]
        exact ih
theorem ext_zero (F : α) : ext F 0 (fun _ => 0) = fun _ => 0 := by
  funext z
  unfold ext
  split <;> rfl
/-! ### a house's cash told as a payment of a new house that has it -/
structure Told (qs B : List (Row α)) (w : Row α → Int) (r0 : Row α) (F : α) (u v : Int) : Prop where
  pB : B.Perm ((F, u, [(r0.1, v)]) :: mc w qs)
  G : Good qs
  r0m : r0 ∈ qs
  v1 : 1 ≤ v
  fr : ∀ r ∈ qs, r.1 ≠ F
  inn : ∀ r ∈ qs, ∀ x ∈ r.2.2, x.1 ≠ F
/-- the cash of both -/
structure Cash (qs : List (Row α)) (r0 : Row α) (F : α) (v : Int) (c d : α → Int) : Prop where
  cF : d F = v
  cH : d r0.1 + v = c r0.1
  cO : ∀ r ∈ qs, r.1 ≠ r0.1 → d r.1 = c r.1
variable {wm : Row α → Int} {v : Int}
theorem Told.memB (T : Told qs B wm r0 F u v) {r : Row α} : r ∈ B ↔ r = (F, u, [(r0.1, v)]) ∨ ∃ q ∈ qs, r = (q.1, wm q, q.2.2) := by
  rw [T.pB.mem_iff, List.mem_cons]
  refine or_congr Iff.rfl ⟨mc_mem, fun ⟨q, hq, e⟩ => ?_⟩
  rw [e]
  exact mc_in hq
theorem Told.good (T : Told qs B wm r0 F u v) : Good B := by
  refine ⟨?_, fun r hr => ?_⟩
  · rw [(T.pB.map fun r : Row α => r.1).nodup_iff]
    refine List.nodup_cons.mpr ⟨fun h => ?_, ?_⟩
    · obtain ⟨r, hr, e⟩ := List.mem_map.mp h
      obtain ⟨q, hq, rfl⟩ := mc_mem hr
      exact T.fr q hq e
    · unfold mc
      rw [List.map_map]
      exact T.G.nd
  · rcases T.memB.mp hr with rfl | ⟨q, hq, rfl⟩
    · intro x hx
      rw [List.mem_singleton.mp hx]
      exact T.v1
    · exact T.G.pos q hq
theorem Told.got (T : Told qs B wm r0 F u v) (z : α) : got B f z = inS [(r0.1, v)] (f F) z + got qs f z := by rw [got_perm T.pB, got_cons, mc_got]
theorem in_one {h z : α} {v : Int} {k : Nat} (hk : 1 ≤ k) : inS [(h, v)] k z = if h = z then v else 0 := by
  unfold inS
  rw [List.take_of_length_le (by rw [List.length_singleton]; exact hk)]
  show (if h = z then v else 0) + 0 = _
  omega
theorem in_zero {h z : α} {v : Int} : inS [(h, v)] 0 z = 0 := rfl
theorem Told.gotF (T : Told qs B wm r0 F u v) : KQ.got B f F = 0 := by
  rw [T.got, inS_none fun x hx => by rw [List.mem_singleton.mp hx]; exact T.fr r0 T.r0m, got_none fun r hr => T.inn r hr]
  rfl
theorem Told.held1 (T : Told qs B wm r0 F u v) (C : Cash qs r0 F v c d) (h1 : 1 ≤ f F) {r : Row α} (hr : r ∈ qs) (t : Int) : held B d f (r.1, t, r.2.2) = held qs c f r := by
  unfold held
  rw [T.got, in_one h1]
  show d r.1 - outS r.2.2 (f r.1) + ((if r0.1 = r.1 then v else 0) + KQ.got qs f r.1) = _
  by_cases e : r.1 = r0.1
  · rw [if_pos e.symm, e]
    have := C.cH
    omega
  · rw [if_neg fun z => e z.symm, C.cO r hr e]
    omega
theorem Told.heldLe (T : Told qs B wm r0 F u v) (C : Cash qs r0 F v c d) {r : Row α} (hr : r ∈ qs) (t : Int) : held B d f (r.1, t, r.2.2) ≤ held qs c f r := by
  by_cases h1 : 1 ≤ f F
  · rw [T.held1 C h1 hr]
    exact Int.le_refl _
  · have h0 : f F = 0 := by omega
    unfold held
    rw [T.got, h0, in_zero]
    show d r.1 - outS r.2.2 (f r.1) + (0 + KQ.got qs f r.1) ≤ _
    have hv := T.v1
    by_cases e : r.1 = r0.1
    · rw [e]
      have := C.cH
      omega
    · rw [C.cO r hr e]
      omega
theorem Told.on (T : Told qs B wm r0 F u v) (C : Cash qs r0 F v c d) (wg : Within B g) (sg : Stable B d g) : g F = 1 := by
  have hF : ((F, u, [(r0.1, v)]) : Row α) ∈ B := T.memB.mpr (Or.inl rfl)
  have hw : g F ≤ 1 := wg _ hF
  by_cases h : g F = 1
  · exact h
  · exfalso
    have h0 : g F = 0 := by omega
    have h1 := sg _ hF (r0.1, v) (by show [(r0.1, v)][g F]? = _; rw [h0]; rfl)
    unfold held at h1
    rw [T.gotF] at h1
    have h1 : d F - outS [(r0.1, v)] (g F) + 0 < v := h1
    rw [h0, C.cF] at h1
    have : outS [(r0.1, v)] 0 = 0 := rfl
    omega
theorem Told.stable (T : Told qs B wm r0 F u v) (C : Cash qs r0 F v c d) (wg : Within B g) (sg : Stable B d g) : Stable qs c g := fun r hr x hx => by
  have h1 := sg _ (T.memB.mpr (Or.inr ⟨r, hr, rfl⟩)) x hx
  rw [T.held1 C (by rw [T.on C wg sg]; exact Nat.le_refl 1) hr] at h1
  exact h1
theorem Told.within (T : Told qs B wm r0 F u v) (wg : Within B g) : Within qs g := fun r hr => wg (r.1, wm r, r.2.2) (T.memB.mpr (Or.inr ⟨r, hr, rfl⟩))
theorem Told.eE (T : Told qs B wm r0 F u v) {k : Nat} : ∀ r ∈ qs, f r.1 = ext F k f r.1 := fun r hr => (ext_ne (T.fr r hr)).symm
theorem Told.extW (T : Told qs B wm r0 F u v) (wf : Within qs f) : Within B (ext F 1 f) := fun r hr => by
  rcases T.memB.mp hr with rfl | ⟨q, hq, rfl⟩
  · show ext F 1 f F ≤ 1
    rw [ext_F]
    exact Nat.le_refl 1
  · show ext F 1 f q.1 ≤ q.2.2.length
    rw [ext_ne (T.fr q hq)]
    exact wf q hq
theorem Told.heldE (T : Told qs B wm r0 F u v) (C : Cash qs r0 F v c d) {r : Row α} (hr : r ∈ qs) (t : Int) : held B d (ext F 1 f) (r.1, t, r.2.2) = held qs c f r := by
  rw [T.held1 C (by rw [ext_F]; exact Nat.le_refl 1) hr]
  exact held_eq (fun q hq => (T.eE q hq).symm) hr
theorem Told.heldF (T : Told qs B wm r0 F u v) (C : Cash qs r0 F v c d) (h1 : 1 ≤ f F) : held B d f (F, u, [(r0.1, v)]) = 0 := by
  unfold held
  rw [T.gotF]
  show d F - outS [(r0.1, v)] (f F) + 0 = 0
  have e : outS [(r0.1, v)] (f F) = v := by
    unfold outS
    rw [List.take_of_length_le (by rw [List.length_singleton]; exact h1)]
    show v + 0 = v
    omega
  rw [e, C.cF]
  omega
theorem Told.extS (T : Told qs B wm r0 F u v) (C : Cash qs r0 F v c d) (sf : Stable qs c f) : Stable B d (ext F 1 f) := fun r hr x hx => by
  rcases T.memB.mp hr with rfl | ⟨q, hq, rfl⟩
  · exfalso
    have hx : [(r0.1, v)][ext F 1 f F]? = some x := hx
    rw [ext_F] at hx
    cases hx
  · rw [T.heldE C hq]
    have hx : q.2.2[ext F 1 f q.1]? = some x := hx
    rw [ext_ne (T.fr q hq)] at hx
    exact sf q hq x hx
theorem Told.extFe (T : Told qs B wm r0 F u v) (C : Cash qs r0 F v c d) (sf : Feas qs c f) : Feas B d (ext F 1 f) := fun r hr => by
  rcases T.memB.mp hr with rfl | ⟨q, hq, rfl⟩
  · rw [T.heldF C (by rw [ext_F]; exact Nat.le_refl 1)]
    exact Int.le_refl 0
  · rw [T.heldE C hq]
    exact sf q hq
theorem Told.leq (T : Told qs B wm r0 F u v) (h : Leq qs f g) (h0 : 1 ≤ g F) : Leq B (ext F 1 f) g := fun r hr => by
  rcases T.memB.mp hr with rfl | ⟨q, hq, rfl⟩
  · show ext F 1 f F ≤ g F
    rw [ext_F]
    exact h0
  · show ext F 1 f q.1 ≤ g q.1
    rw [ext_ne (T.fr q hq)]
    exact h q hq
theorem Told.least (T : Told qs B wm r0 F u v) (C : Cash qs r0 F v c d) (h : Least qs c f) : Least B d (ext F 1 f) :=
  ⟨⟨T.extW h.1.1, fun g wg sg => T.leq (h.1.2 g (T.within wg) (T.stable C wg sg)) (by rw [T.on C wg sg]; exact Nat.le_refl 1)⟩, T.extS C h.2⟩
theorem Told.great (T : Told qs B wm r0 F u v) (C : Cash qs r0 F v c d) (h : Great qs c f) : Great B d (ext F 1 f) := by
  refine ⟨⟨T.extW h.1.1, fun g wg sg => ?_⟩, T.extFe C h.2⟩
  have hf : Feas qs c g := fun r hr => Int.le_trans (sg (r.1, wm r, r.2.2) (T.memB.mpr (Or.inr ⟨r, hr, rfl⟩))) (T.heldLe C hr _)
  have hl := h.1.2 g (T.within wg) hf
  intro r hr
  rcases T.memB.mp hr with rfl | ⟨q, hq, rfl⟩
  · show g F ≤ ext F 1 f F
    rw [ext_F]
    exact wg _ hr
  · show g q.1 ≤ ext F 1 f q.1
    rw [ext_ne (T.fr q hq)]
    exact hl q hq
theorem Told.opt (T : Told qs B wm r0 F u v) (C : Cash qs r0 F v c d) {m : Bool} (h : Opt m qs c f) : Opt m B d (ext F 1 f) := by
  cases m
  · exact T.great C h
  · exact T.least C h
theorem Told.reach (T : Told qs B wm r0 F u v) (C : Cash qs r0 F v c d) : Reach B d (ext F 1 gl) ↔ Reach qs c gl := by
  constructor
  · intro h g wg sg r hr
    have := h _ (T.extW wg) (T.extS C sg) _ (T.memB.mpr (Or.inr ⟨r, hr, rfl⟩))
    have this : ext F 1 gl r.1 ≤ ext F 1 g r.1 := this
    rw [ext_ne (T.fr r hr), ext_ne (T.fr r hr)] at this
    exact this
  · intro h g wg sg
    exact T.leq (h g (T.within wg) (T.stable C wg sg)) (by rw [T.on C wg sg]; exact Nat.le_refl 1)
theorem Told.steps' (T : Told qs B wm r0 F u v) (C : Cash qs r0 F v c d) : ∀ {ws : List α} {f : α → Nat}, Steps qs c f ws g → Steps B d (ext F 1 f) ws (ext F 1 g)
  | [], f, h => by
    cases h
    rfl
  | _ :: ws, f, ⟨r, hr, rfl, x, hx, hp, h⟩ => by
    refine ⟨_, T.memB.mpr (Or.inr ⟨r, hr, rfl⟩), rfl, x, ?_, by rw [T.heldE C hr]; exact hp, ?_⟩
    · show r.2.2[ext F 1 f r.1]? = some x
      rw [ext_ne (T.fr r hr)]
      exact hx
    · have e1 : bump (ext F 1 f) r.1 = ext F 1 (bump f r.1) := by
        funext z
        unfold bump ext
        by_cases h : z = r.1
        · rw [if_pos h, if_neg (by rw [h]; exact T.fr r hr), if_neg (by rw [h]; exact T.fr r hr)]
          exact (if_pos h).symm
        · rw [if_neg h]
          split
          · rfl
          · exact (if_neg h).symm
      show Steps B d (bump (ext F 1 f) r.1) ws _
      rw [e1]
      exact T.steps' C h
theorem Told.steps (T : Told qs B wm r0 F u v) (C : Cash qs r0 F v c d) {ws : List α} (h : Steps qs c (fun _ => 0) ws g) : Steps B d (fun _ => 0) (F :: ws) (ext F 1 g) := by
  refine ⟨_, T.memB.mpr (Or.inl rfl), rfl, (r0.1, v), rfl, ?_, ?_⟩
  · unfold held
    rw [T.gotF]
    show v ≤ d F - outS [(r0.1, v)] 0 + 0
    have : outS [(r0.1, v)] 0 = 0 := rfl
    rw [C.cF]
    omega
  · have e : bump (fun _ : α => 0) F = ext F 1 (fun _ => 0) := by
      funext z
      unfold bump ext
      rfl
    show Steps B d (bump (fun _ => 0) F) ws _
    rw [e]
    exact T.steps' C h
theorem Told.backs (T : Told qs B wm r0 F u v) (C : Cash qs r0 F v c d) : ∀ {ws : List α} {f : α → Nat}, Backs qs c f ws g → Backs B d (ext F 1 f) ws (ext F 1 g)
  | [], f, h => by
    cases h
    rfl
  | _ :: ws, f, ⟨r, hr, rfl, hx, hp, h⟩ => by
    refine ⟨_, T.memB.mpr (Or.inr ⟨r, hr, rfl⟩), rfl, ?_, by rw [T.heldE C hr]; exact hp, ?_⟩
    · show ext F 1 f r.1 ≠ 0
      rw [ext_ne (T.fr r hr)]
      exact hx
    · have e1 : drop (ext F 1 f) r.1 = ext F 1 (drop f r.1) := by
        funext z
        unfold drop ext
        by_cases h : z = r.1
        · rw [if_pos h, if_neg (by rw [h]; exact T.fr r hr), if_neg (by rw [h]; exact T.fr r hr)]
          exact (if_pos h).symm
        · rw [if_neg h]
          split
          · rfl
          · exact (if_neg h).symm
      show Backs B d (drop (ext F 1 f) r.1) ws _
      rw [e1]
      exact T.backs C h
end KQ
namespace NQ
open PySem PySem.Spec PyProof.Rows L2 Evl
open KQ (Row held)
/-- a paper of a gridlock, or of none, that is right -/
def RightGrid (H : Hp) (t : Addr) (qs : List (Row Str)) : Prop := ∃ ws g b b1 c1, H t = some (.tup [.str (wordS b), .ref b1, .ref c1]) ∧ H b1 = some (.tup (ws.map V.str)) ∧ KQ.Backs qs (cashF qs) (KQ.lenOf qs) ws g ∧ KQ.Great qs (cashF qs) g ∧
  ((b = true ∧ ∃ us f, H c1 = some (.tup (us.map V.str)) ∧ KQ.Steps qs (cashF qs) (fun _ => 0) us f ∧ KQ.Stable qs (cashF qs) f ∧ KQ.EqOn qs f g) ∨ (b = false ∧ ∃ f, StH H c1 qs f ∧ KQ.Within qs f ∧ KQ.Stable qs (cashF qs) f ∧ ¬ KQ.Leq qs g f))
def PreIsGrid : List V → Hp → Prop := fun vs H => ∃ a t qs, vs = [.ref a, .ref t] ∧ QH H a qs ∧ GoodQ qs ∧ RightGrid H t qs
theorem RightGrid.ex {H H' : Hp} {t : Addr} {qs : List (Row Str)} (h : RightGrid H t qs) (e : Ex H H') : RightGrid H' t qs := by
  obtain ⟨ws, g, b, b1, c1, h1, h2, h3, h4, h5⟩ := h
  refine ⟨ws, g, b, b1, c1, e _ _ h1, e _ _ h2, h3, h4, ?_⟩
  rcases h5 with ⟨hb, us, f, k1, k2⟩ | ⟨hb, f, k1, k2⟩
  · exact Or.inl ⟨hb, us, f, e _ _ k1, k2⟩
  · exact Or.inr ⟨hb, f, e _ _ k1, k2⟩
theorem flow_of {qs : List (Row Str)} {f g : Str → Nat} : flowB qs f g = true ↔ KQ.EqOn qs f g := by
  unfold flowB
  rw [decide_eq_true_eq, stI_eq]
theorem GridP.right {H : Hp} {p : Addr} {qs : List (Row Str)} {f g : Str → Nat} (h : GridP H p qs f g) (hf : KQ.Least qs (cashF qs) f) (hg : KQ.Great qs (cashF qs) g) (hl : KQ.Leq qs f g) : RightGrid H p qs := by
  obtain ⟨b1, c1, ws, h1, h2, h3, _, h4⟩ := h
  refine ⟨ws, g, flowB qs f g, b1, c1, h1, h2, h3, hg, ?_⟩
  rcases h4 with ⟨hb, us, k1, k2, _⟩ | ⟨hb, k1⟩
  · exact Or.inl ⟨hb, us, f, k1, k2, hf.2, flow_of.mp hb⟩
  · refine Or.inr ⟨hb, f, k1, hf.1.1, hf.2, fun z => ?_⟩
    have : flowB qs f g = true := flow_of.mpr fun r hr => Nat.le_antisymm (hl r hr) (z r hr)
    rw [hb] at this
    cases this
section
variable {K : PySem.W.Frag} {σ : L2.St} {H H' : Hp} {ta tb te : TE} {tr : TA}
theorem ev_eqStG {s' : Addr} {qs : List (Row Str)} {f g : Str → Nat} (ha : Gv ta σ H (fun v H2 => ∃ s, v = .ref s ∧ StH H2 s qs f)) (hb : Ev tb σ H (.ref s')) (hs' : StH H s' qs g) : Ev (tOp (rEqD K) ta tb) σ H (.bl (flowB qs f g)) := fun H1 e Q q => by
  refine ha H1 e _ fun v H2 e2 ⟨s, hv, hs⟩ => ?_
  subst hv
  refine hb H2 (e.trans e2) _ fun H3 e3 => ?_
  refine ⟨_, _, dp_stT (e3 _ _ hs), dp_stT (((e.trans e2).trans e3) _ _ hs'), shaped_intsT _, shaped_intsT _, ?_⟩
  rw [eqv_intsT]
  exact q H3 (e2.trans e3)
end
section
variable {P : Program} {w : World} {K : PySem.W.Frag} {mg : Str → Option Value} {base : Heap} {f : Addr} {fd : FuncData} {aK : Addr} {tk : Tk}
theorem ok_is_gridlock_paper (F : Fun K "is_gridlock_paper" "is_gridlock_paper" s_is_gridlock_paper f fd) (T : Tx K mg aK tk) (c_check_queues : Cal P w K mg base CX0 4 "check_queues" ["queues"] (spN PreQ)) (c_back_end : Cal P w K mg base CX0 3 "back_end" ["queues", "thing"] spBackEnd)
    (c_run_end : Cal P w K mg base CX0 4 "run_end" ["queues", "thing"] spRunEnd) (c_is_state_of : Cal P w K mg base CX0 2 "is_state_of" ["queues", "thing"] (spB PreSt)) (c_payers : Cal P w K mg base CX0 3 "payers" ["queues", "state"] spPayers) (c_is_within : Cal P w K mg base CX0 1 "is_within" ["one", "other"] spWith) :
    FnOk P w K mg base CX0 5 f fd ["queues", "value"] (spB PreIsGrid) := by
  refine F.ok sc_is_gridlock_paper (fun vs H Q E h => ?_) (fun cdv A outer s H vs Q E hr h => ?_)
  · obtain ⟨⟨a, t, qs, rfl, _⟩, _⟩ := h
    rfl
  · obtain ⟨⟨a, t, qs, rfl, hq, g, ws, gg, b, b1, c1, ht, hb1, hbk, hgr, hor⟩, k⟩ := h
    have hu := hu_of hr
    refine ⟨_, (pss_cons (ps_expr (pe_cl c_check_queues hr (by decide) (by rfl) (pa_cons (pv 0) pa_nil)))
      (pss_cons (ps_if (PW.pt (pw_or (pt_not (pt_val (pe_callB (crIsi (K := K) rfl) (by rfl) T.isinstance (by decide +kernel) (pa_cons (pv 1) (pa_cons (pe_bltn (v := .ty "tuple") (by rfl) T.tuple (by decide +kernel) rfl) pa_nil))))) (pw_or (pt_cmpR op_ne (pe_callB (crLen (K := K) rfl) (by rfl) T.len (by decide +kernel) (pa_cons (pv 1) pa_nil)) pe_int (nomark _)) (pw_or1 (pt_not (pt_val (pe_callB (crIsi (K := K) rfl) (by rfl) T.isinstance (by decide +kernel) (pa_cons (pe_ix (ixT (K := K) rfl) (pv 1) pe_int (fun _ _ => rfl)) (pa_cons (pe_bltn (v := .ty "str") (by rfl) T.str (by decide +kernel) rfl) pa_nil)))))))))
        (pss_one (ps_ret pe_bl))
        pss_nil)
      (pss_cons (ps_set (i := 2) sc_is_gridlock_paper.nd rfl (Or.inl rfl) (pe_cl c_back_end hr (by decide) (by rfl) (pa_cons (pv 0) (pa_cons (pe_ix (ixT (K := K) rfl) (pv 1) pe_int (fun _ _ => rfl)) pa_nil))))
      (pss_cons (ps_if (pt_cmpR op_isN (pv 2) pe_non (nomark _))
        (pss_one (ps_ret pe_bl))
        pss_nil)
      (pss_cons (ps_if (pt_cmpR op_eq (pe_ix (ixT (K := K) rfl) (pv 1) pe_int (fun _ _ => rfl)) pe_str (nomark _))
        (pss_one (ps_ret (pe_cmpR (opEqD (K := K) rfl hr.units) (pe_cl c_run_end hr (by decide) (by rfl) (pa_cons (pv 0) (pa_cons (pe_ix (ixT (K := K) rfl) (pv 1) pe_int (fun _ _ => rfl)) pa_nil))) (pv 2) (nomark _))))
        pss_nil)
      (pss_cons (ps_if (PW.pt (pw_or (pt_cmpR op_ne (pe_ix (ixT (K := K) rfl) (pv 1) pe_int (fun _ _ => rfl)) pe_str (nomark _)) (pw_or1 (pt_not (pt_val (pe_cl c_is_state_of hr (by decide) (by rfl) (pa_cons (pv 0) (pa_cons (pe_ix (ixT (K := K) rfl) (pv 1) pe_int (fun _ _ => rfl)) pa_nil))))))))
        (pss_one (ps_ret pe_bl))
        pss_nil)
      (pss_one (ps_ret (pe_and (pe_cmpR (opEqD (K := K) rfl hr.units) (pe_cl c_payers hr (by decide) (by rfl) (pa_cons (pv 0) (pa_cons (pe_ix (ixT (K := K) rfl) (pv 1) pe_int (fun _ _ => rfl)) pa_nil))) (pe_lst pa_nil) (nomark _)) (pe_one (pe_not (pe_cl c_is_within hr (by decide) (by rfl) (pa_cons (pv 2) (pa_cons (pe_ix (ixT (K := K) rfl) (pv 1) pe_int (fun _ _ => rfl)) pa_nil)))))))))))))), ?_⟩
    have ix : ∀ {σ : L2.St} {H1 : Hp} (j : Nat) {v : V}, σ[1]? = some (some (.ref t)) → [V.str (wordS b), .ref b1, .ref c1][j]? = some v → Ex H H1 → Ev (tOp (rIxT K) (tVar 1) (tC (.int (j : Nat)))) σ H1 v := fun {σ H1} j {v} h hv e => ev_op (ev_var h) ev_c (rv_ixT (st_of (e _ _ ht)) (at_of (j := j) rfl hv))
    refine q_drop (v := .non) (ev_callN (ea_cons (ev_var rfl) ea_nil) fun H1 e1 => ⟨a, qs, rfl, hq.tx (TX.of e1), g⟩) fun H1 e1 => ?_
    refine q_when (σ := [some (.ref a), some (.ref t), none]) (b := false) (et_is (et_or (et_not (et_B (ev_isi (ev_var (i := 1) rfl) ev_c (ClsV.ty _) (fun H2 e2 => .base (.tup ((e1.trans e2) _ _ ht))) (kit_ty (b := "tuple") (r := true) (by decide +kernel))))) fun _ =>
      et_or (et_test (ev_op (ev_lenT (K := K) (ev_var (i := 1) rfl) (st_of (e1 _ _ ht))) ev_c (rv_ne rfl))) fun _ => et_not (et_B (ev_isi (ix 0 rfl rfl e1) ev_c (ClsV.ty _) (fun _ _ => .base (.str _)) (kit_ty (b := "str") (r := true) (by decide +kernel))))) rfl) (fun z => by cases z) (fun _ H2 e2 => ?_)
    have e12 := e1.trans e2
    refine q_asgG (gv_backEnd (σ := [some (.ref a), some (.ref t), none]) (ea_cons (ev_var (i := 0) rfl) (ea_cons (ix 1 rfl rfl e12) ea_nil)) (hq.tx (TX.of e12)) g.well (e12 _ _ hb1) hbk hgr.2) fun v H3 e3 ⟨gs, hv, hgs⟩ => ?_
    subst hv
    have e13 := e12.trans e3
    refine q_when (σ := [some (.ref a), some (.ref t), some (.ref gs)]) (b := false) (et_is (et_test (ev_isNon (ev_var (i := 2) rfl))) rfl) (fun z => by cases z) (fun _ H4 e4 => ?_)
    have e14 := e13.trans e4
    refine q_when (σ := [some (.ref a), some (.ref t), some (.ref gs)]) (b := b) (et_is (et_test (ev_eqV rfl (ix 0 rfl rfl e14) (ev_c (v := .str "flows")))) (by cases b <;> rfl)) (fun hb H5 e5 => ?_) (fun hb H5 e5 => ?_)
    · rcases hor with ⟨_, us, f1, h1, h2, h3, h4⟩ | ⟨hb2, _⟩
      · have e15 := e14.trans e5
        refine s_ret (ev_eqStG (K := K) (σ := [some (.ref a), some (.ref t), some (.ref gs)]) (gv_runEnd (ea_cons (ev_var (i := 0) rfl) (ea_cons (ix 2 rfl rfl e15) ea_nil)) (hq.tx (TX.of e15)) g.well (e15 _ _ h1) h2 h3) (ev_var (i := 2) rfl) ((e4.trans e5) _ _ hgs)) fun H6 e6 => ?_
        rw [flow_of.mpr h4]
        exact k _ _ (e15.trans e6) rfl
      · rw [hb] at hb2
        cases hb2
    · rcases hor with ⟨hb2, _⟩ | ⟨_, f1, h1, h2, h3, h4⟩
      · rw [hb] at hb2
        cases hb2
      · have e15 := e14.trans e5
        refine q_when (σ := [some (.ref a), some (.ref t), some (.ref gs)]) (b := false) (et_is (et_or (et_test (ev_op (ix 0 rfl rfl e15) (ev_c (v := .str "gridlock")) (rv_ne rfl))) fun _ => et_not (et_B (ev_callB (ea_cons (ev_var (i := 0) rfl) (ea_cons (ix 2 rfl rfl e15) ea_nil)) fun H6 e6 => ⟨a, c1, qs, f1, rfl, hq.tx (TX.of (e15.trans e6)), g.well, (e15.trans e6) _ _ h1, h2⟩))) (by rw [hb]; rfl)) (fun z => by cases z) (fun _ H6 e6 => ?_)
        have e16 := e15.trans e6
        refine s_ret (v := .bl true) (σ := [some (.ref a), some (.ref t), some (.ref gs)]) (ev_is (ev_andV (ev_nilNew (K := K) (el_payers (ea_cons (ev_var (i := 0) rfl) (ea_cons (ix 2 rfl rfl e16) ea_nil)) (hq.tx (TX.of e16)) g.well (Or.inr (e16 _ _ h1)) h2)) fun _ => ev_notV (ev_with (ea_cons (ev_var (i := 2) rfl) (ea_cons (ix 2 rfl rfl e16) ea_nil)) (((e4.trans e5).trans e6) _ _ hgs) (Or.inr (e16 _ _ h1)) g.l40)) ?_) fun H7 e7 => k _ _ (e16.trans e7) rfl
        rw [payIx_stable h3]
        have : (qs.all fun r => decide (gg r.1 ≤ f1 r.1)) = false := by
          rw [Bool.eq_false_iff]
          intro z
          rw [List.all_eq_true] at z
          exact h4 fun r hr => of_decide_eq_true (z r hr)
        rw [this]
        rfl
end
end NQ
namespace NQ
open PySem PySem.Spec PyProof.Rows L2 Evl
open KQ (Row)
theorem paired_perm {α β : Type} {F : α → β → Prop} {xs xs' : List α} (hp : xs'.Perm xs) : ∀ {ys : List β}, Paired F xs ys → ∃ ys' : List β, ys'.Perm ys ∧ Paired F xs' ys' := by
  induction hp with
  | nil => intro ys h; exact ⟨ys, .refl _, h⟩
  | cons x _ ih =>
    intro ys h
    cases h with
    | cons h1 h2 =>
      obtain ⟨ys', e, h3⟩ := ih h2
      exact ⟨_ :: ys', e.cons _, .cons h1 h3⟩
  | swap x y l =>
    intro ys h
    cases h with
    | cons h1 h2 =>
      cases h2 with
      | cons h3 h4 => exact ⟨_, .swap _ _ _, .cons h3 (.cons h1 h4)⟩
  | trans _ _ ih1 ih2 =>
    intro ys h
    obtain ⟨ys1, e1, h1⟩ := ih2 h
    obtain ⟨ys2, e2, h2⟩ := ih1 h1
    exact ⟨ys2, e2.trans e1, h2⟩
theorem paired_append {α β : Type} {F : α → β → Prop} {xs xs' : List α} {ys ys' : List β} (h : Paired F xs ys) (h' : Paired F xs' ys') : Paired F (xs ++ xs') (ys ++ ys') := by
  induction h with
  | nil => exact h'
  | cons h1 _ ih => exact .cons h1 ih
/-- the name ahead in the tuple that a value refers to -/
def kOf (H : Hp) (v : V) : Str := match v with
  | .ref t => match H t with
    | some (.tup (.str z :: _)) => z
    | _ => ""
  | _ => ""
theorem kOf_row {H : Hp} {p : Addr} {r : Row Str} (h : RowH H p r) : kOf H (.ref p) = r.1 := by
  obtain ⟨q, h1, _⟩ := h
  show (match H p with
    | some (.tup (.str z :: _)) => z
    | _ => ("" : Str)) = r.1
  rw [h1]
theorem q_asgEG {te : TE} {σ : L2.St} {H : Hp} {i : Nat} {is : List Nat} {P : Nat → V → Hp → Prop} {D : Ends} {tz : TS} (h : EvG te σ H is P) (k : ∀ p ys H1, H p = none → Ex H H1 → H1 p = some (.lst ys) → Paired (fun i y => P i y H1) is ys → tz D (σ.set i (some (.ref p))) H1) : tSeq (tAsg te (gName i)) tz D σ H :=
  h H (Ex.refl H) _ fun p ys H1 hp e hp1 hpr => k p ys H1 hp e hp1 hpr
/-- sorted of rows with distinct names -/
theorem rows_sorted {H : Hp} {ps : List Addr} {rows : List (Row Str)} (hpr : Paired (RowH H) ps rows) (nd : (names rows).Nodup) {ys : List V} (hp : ys.Perm (ps.map V.ref)) (hs : ys.Pairwise (fun x y => ¬ (kOf H y).cps.toList < (kOf H x).cps.toList)) :
    ∃ (ps' : List Addr) (B : List (Row Str)), ys = ps'.map V.ref ∧ B.Perm rows ∧ AscS (names B) ∧ Paired (RowH H) ps' B := by
  have h1 : Paired (fun v r => ∃ p, v = V.ref p ∧ RowH H p r) (ps.map V.ref) rows := by
    clear nd hp hs
    induction hpr with
    | nil => exact .nil
    | cons h _ ih => exact .cons ⟨_, rfl, h⟩ ih
  obtain ⟨B, e, h2⟩ := paired_perm hp h1
  have h3 : ∃ ps' : List Addr, ys = ps'.map V.ref ∧ Paired (RowH H) ps' B := by
    clear hp hs e
    induction h2 with
    | nil => exact ⟨[], rfl, .nil⟩
    | cons h _ ih =>
      obtain ⟨p, e1, hp⟩ := h
      obtain ⟨ps', e2, h3⟩ := ih
      exact ⟨p :: ps', by rw [e1, e2]; rfl, .cons hp h3⟩
  obtain ⟨ps', rfl, h3⟩ := h3
  refine ⟨ps', B, rfl, e, ?_, h3⟩
  have ndB : (names B).Nodup := (e.map _).nodup_iff.mpr nd
  have hl := paired_len h3
  show (names B).Pairwise _
  rw [List.pairwise_iff_getElem] at hs ⊢
  intro i j hi hj hij
  rw [List.length_map] at hi hj
  have hi' : i < ps'.length := by omega
  have hj' : j < ps'.length := by omega
  have k1 := kOf_row (paired_at h3 (List.getElem?_eq_getElem hi') (List.getElem?_eq_getElem hi))
  have k2 := kOf_row (paired_at h3 (List.getElem?_eq_getElem hj') (List.getElem?_eq_getElem hj))
  have := hs i j (by rw [List.length_map]; exact hi') (by rw [List.length_map]; exact hj') hij
  rw [List.getElem_map, List.getElem_map, k1, k2] at this
  rw [List.getElem_map, List.getElem_map]
  refine Std.lt_of_le_of_ne (List.not_lt.mp this) (str_ne fun z => ?_)
  have := (List.pairwise_iff_getElem.mp ndB) i j (by rw [List.length_map]; exact hi) (by rw [List.length_map]; exact hj) hij
  rw [List.getElem_map, List.getElem_map] at this
  exact this z
/-- a list of rows -/
def EvRows (rows : List (Row Str)) (te : TE) (σ : L2.St) (H : Hp) : Prop := ∀ H1, Ex H H1 → ∀ Q : VK, (∀ l ps H2, Ex H1 H2 → H2 l = some (.lst (ps.map V.ref)) → Paired (RowH H2) ps rows → Q (.ref l) H2) → te σ H1 Q
section
variable {K : PySem.W.Frag} {σ : L2.St} {H H' : Hp} {te : TE}
/-- ("queues", tuple(sorted(rows))) -/
theorem gv_sortQ {rows : List (Row Str)} (h : EvRows rows te σ H) (nd : (names rows).Nodup) :
    Gv (tTup (tCons (tC (.str "queues")) (tCons (tCB (rTupS K) (tCons (tCB (rSortedN K) (tCons te tNil)) tNil)) tNil))) σ H (fun v H2 => ∃ p B, v = .ref p ∧ B.Perm rows ∧ AscS (names B) ∧ QH H2 p B) := fun H1 e Q k => by
  refine h H1 e _ fun l4 ps H4 e4 hl5 hpr => ?_
  refine ⟨l4, ps.map V.ref, kOf H4, rfl, sq_of hl5, fun x hx => ?_, fun x hx y hy hk => ?_, fun ys p hperm hpw hp => ?_⟩
  · obtain ⟨t, ht, rfl⟩ := List.mem_map.mp hx
    obtain ⟨j, hj⟩ := List.mem_iff_getElem?.mp ht
    obtain ⟨r, hr⟩ := get_of (l := rows) (i := j) rfl (by rw [← paired_len hpr]; exact (List.getElem?_eq_some_iff.mp hj).1)
    have hrow := paired_at hpr hj hr
    rw [kOf_row hrow]
    obtain ⟨q, h1, _⟩ := hrow
    exact ⟨t, _, rfl, h1⟩
  · obtain ⟨t, ht, rfl⟩ := List.mem_map.mp hx
    obtain ⟨t', ht', rfl⟩ := List.mem_map.mp hy
    obtain ⟨j, hj⟩ := List.mem_iff_getElem?.mp ht
    obtain ⟨i, hi⟩ := List.mem_iff_getElem?.mp ht'
    have hjl := (List.getElem?_eq_some_iff.mp hj).1
    have hil := (List.getElem?_eq_some_iff.mp hi).1
    obtain ⟨r, hr⟩ := get_of (l := rows) (i := j) rfl (by rw [← paired_len hpr]; exact hjl)
    obtain ⟨r', hr'⟩ := get_of (l := rows) (i := i) rfl (by rw [← paired_len hpr]; exact hil)
    rw [kOf_row (paired_at hpr hj hr), kOf_row (paired_at hpr hi hr')] at hk
    have a1 : (names rows)[j]? = some r.1 := by rw [List.getElem?_map, hr]; rfl
    have a2 : (names rows)[i]? = some r'.1 := by rw [List.getElem?_map, hr']; rfl
    rw [hk, ← a2] at a1
    have := (List.getElem?_inj (by rw [List.length_map, ← paired_len hpr]; exact hjl) nd).mp a1
    rw [this, hi] at hj
    rw [Option.some.inj hj]
  · obtain ⟨ps', B, rfl, hB, hasc, hpB⟩ := rows_sorted hpr nd hperm hpw
    have x5 : Ex H4 (upd H4 p (.lst (ps'.map V.ref))) := Ex.new hp
    have hp5 : (upd H4 p (.lst (ps'.map V.ref))) p = some (.lst (ps'.map V.ref)) := upd_same
    generalize upd H4 p (.lst (ps'.map V.ref)) = H5 at x5 hp5
    refine ⟨p, _, rfl, Or.inl ⟨sq_of hp5, fun tl htl => ⟨by show 2 ≤ sizeLine; decide, fun rp hrp => ?_⟩⟩⟩
    have x6 : Ex H5 (upd H5 tl (.tup (ps'.map V.ref))) := Ex.new htl
    have x7 := x6.trans (Ex.new (o := .tup [.str "queues", .ref tl]) hrp)
    refine k (.ref rp) _ (e4.trans (x5.trans x7)) ⟨rp, B, rfl, hB, hasc, tl, upd_same, ps', ?_, L2.Paired.mapP hpB fun _ _ z => z.tx (TX.of (x5.trans x7))⟩
    rw [upd_ne (ne_of_none (upd_same (H := H5) (a := tl) (o := .tup (ps'.map V.ref))) hrp)]
    exact upd_same
theorem ers_ev {rows : List (Row Str)} {l : Addr} {ps : List Addr} (h : Ev te σ H (.ref l)) (hl : H l = some (.lst (ps.map V.ref))) (hp : Paired (RowH H) ps rows) : EvRows rows te σ H := fun H1 e Q q => h H1 e _ fun H2 e2 => q l ps H2 e2 ((e.trans e2) _ _ hl) (L2.Paired.mapP hp fun _ _ z => z.tx (TX.of (e.trans e2)))
end
end NQ
namespace NQ
open PySem PySem.Spec PyProof.Rows L2 Evl
open KQ (Row ext)
def spByN : Sp := fun vs H Q _ => ∃ a s qs f, vs = [.ref a, .ref s] ∧ QH H a qs ∧ (names qs).Nodup ∧ qs.length ≤ 40 ∧ StH H s qs f ∧ ∀ d H', H d = none → Ex H H' → H' d = some (.dK (tolK qs f)) → Q (.ref d) H'
section
variable {K : PySem.W.Frag} {σ : L2.St} {H H' : Hp} {ta tb tc te : TE} {tr : TA} {D : Ends} {tz : TS}
theorem ed_byN {a s : Addr} {qs : List (Row Str)} {f : Str → Nat} (h : EvA tr σ H [.ref a, .ref s]) (hq : QH H a qs) (nd : (names qs).Nodup) (l40 : qs.length ≤ 40) (hs : StH H s qs f) : EvD (tCall spByN [] E0 tr) σ H (tolK qs f) := fun H1 e Q q => by
  refine h H1 e _ fun H2 e2 => ?_
  rw [List.append_nil]
  exact ⟨a, s, qs, f, rfl, hq.tx (TX.of (e.trans e2)), nd, l40, (e.trans e2) _ _ hs, fun d H' hd e3 hd' => q d H' (fresh_back e2 hd) (e2.trans e3) hd'⟩
end
section
variable {P : Program} {w : World} {K : PySem.W.Frag} {mg : Str → Option Value} {base : Heap} {f : Addr} {fd : FuncData} {aK : Addr} {tk : Tk}
theorem ok__law_by_name (F : Fun K "_law_by_name" "_law_by_name" s__law_by_name f fd) (T : Tx K mg aK tk) : FnOk P w K mg base CX0 1 f fd ["queues", "state"] spByN := by
  refine F.ok sc__law_by_name (fun vs H Q E h => ?_) (fun cdv A outer s H vs Q E hr h => ?_)
  · obtain ⟨a, s, qs, ff, rfl, _⟩ := h
    rfl
  · obtain ⟨a, s, qs, ff, rfl, ⟨b, ha, ps, hb, hpr⟩, nd, l40, hs, k⟩ := h
    have hu := hu_of hr
    refine ⟨_, (pss_one (ps_ret (pe_callTy (crDictL (K := K) rfl rfl) (by rfl) T.dict (by decide +kernel) (pa_cons (pe_lc (own := [("house", 2), ("many", 3)]) rfl sc__law_by_name.nd (piZipL (K := K) rfl (by rfl) T.zip (pa_cons (pe_ix (ixT (K := K) rfl) (pv 0) pe_int (fun _ _ => rfl)) (pa_cons (pv 1) pa_nil))) (blkOk_by (own := [("house", 2), ("many", 3)]) (N := N__law_by_name) (sc := defScope s__law_by_name) (by decide +kernel)) (fun _ _ _ _ _ => (pgTup (K := K) (n := 2) rfl rfl (pgs_cons (pg_name (i := 2) sc__law_by_name.nd rfl (Or.inl rfl)) (pgs_cons (pg_name (i := 3) sc__law_by_name.nd rfl (Or.inl rfl)) pgs_nil)))) (fun _ _ _ _ _ => pts_nil) (fun _ _ _ _ _ => (pe_tup (pa_cons (pe_ix (ixT (K := K) rfl) (pv 2) pe_int (fun _ _ => rfl)) (pa_cons (pv 3) pa_nil))))) pa_nil)))), ?_⟩
    have hlen : (ps.map V.ref).length = qs.length := by rw [List.length_map, paired_len hpr]
    have wk := ed_dictG (K := K) (σ := [some (.ref a), some (.ref s), none, none]) (H := H) (n := (ps.map V.ref).length) (fun i => (Sum.inr (qs.getD i rowD).1 : Key)) (fun i => V.int (ff (qs.getD i rowD).1 : Nat))
      (el_lcG (te := tTup (tCons (tOp (rIxT K) (tVar 2) (tC (.int 0))) (tCons (tVar 3) tNil))) (tt := tYes) (g := gTup K 2 (gCons (gName 2) (gCons (gName 3) gNil))) (vs := [2, 3]) (ei_zipT (K := K) (eq_ev (ev_houses (K := K) (ev_var (i := 0) rfl) ha) (st_of hb)) (eq_ev (ev_var (i := 1) rfl) (st_of hs)) (by rw [hlen, stV_len])) (by rw [hlen]; omega) (fun _ => true) (fun i v H => ∃ p, v = .ref p ∧ H p = some (.tup [.str (qs.getD i rowD).1, .int (ff (qs.getD i rowD).1 : Nat)])) (fun i v H1 H2 e ⟨p, hv, hp⟩ => ⟨p, hv, e _ _ hp⟩) fun i x H1 H2 e1 hi hy => by
        obtain ⟨U, x, y, rfl, hU, rfl, h1, h2⟩ := hy
        have h1' : (ps.map V.ref)[i]? = some x := h1
        obtain ⟨p, r, rfl, _, hqr, q', hrow, _⟩ := RowsH.at hpr h1'
        have h2' : (stV qs ff)[i]? = some y := h2
        rw [stV_at hqr] at h2'
        cases h2'
        have eU : Ex H1 (upd H1 U (.tup [.ref p, .int (ff r.1 : Nat)])) := Ex.new hU
        refine ⟨eU, _, fun R h => g_tup2 (i := 2) (j := 3) upd_same h, rfl, et_yes, fun _ => ?_⟩
        rw [getD_of hqr]
        exact gv_pair (ev_op (ev_var (i := 2) rfl) ev_c (rv_ixT (st_of ((e1.trans eU) _ _ hrow)) (at_of (j := 0) rfl rfl))) (ev_var (i := 3) rfl))
    have e : (List.range (ps.map V.ref).length).map (fun i => ((Sum.inr (qs.getD i rowD).1 : Key), V.int (ff (qs.getD i rowD).1 : Nat))) = tolK qs ff := by
      rw [hlen]
      exact map_range_getD rowD (fun r : Row Str => ((Sum.inr r.1 : Key), V.int (ff r.1 : Nat))) qs
    rw [e, dI_merge nd] at wk
    exact wk H (Ex.refl H) _ fun d H1 hd e1 hd1 => k d H1 hd e1 hd1
end
end NQ
namespace NQ
open PySem PySem.Spec PyProof.Rows L2 Evl
open KQ (Row ext)
def spNumOf : Sp := fun vs H Q _ => ∃ a s qs f r, vs = [.ref a, .ref s, .str r.1] ∧ QH H a qs ∧ (names qs).Nodup ∧ qs.length ≤ 40 ∧ StH H s qs f ∧ r ∈ qs ∧ ∀ H', Ex H H' → Q (.int (f r.1 : Nat)) H'
def spWithS : Sp := fun vs H Q _ => ∃ (a a2 s : Addr) (qs B : List (Row Str)) (f : Str → Nat) (z : Str) (k : Nat), vs = [.ref a, .ref a2, .ref s, .str z, .int (k : Nat)] ∧ QH H a qs ∧ QH H a2 B ∧ (names qs).Nodup ∧ qs.length ≤ 40 ∧ B.length ≤ 40 ∧ StH H s qs f ∧ (∀ R ∈ B, R.1 = z ∨ ∃ r ∈ qs, r.1 = R.1) ∧ ∀ p H', Ex H H' → StH H' p B (ext z k f) → Q (.ref p) H'
section
variable {P : Program} {w : World} {K : PySem.W.Frag} {mg : Str → Option Value} {base : Heap} {f : Addr} {fd : FuncData} {aK : Addr} {tk : Tk}
theorem ok__law_number_of (F : Fun K "_law_number_of" "_law_number_of" s__law_number_of f fd) (T : Tx K mg aK tk) (c__law_by_name : Cal P w K mg base CX0 1 "_law_by_name" ["queues", "state"] spByN) : FnOk P w K mg base CX0 2 f fd ["queues", "state", "house"] spNumOf := by
  refine F.ok sc__law_number_of (fun vs H Q E h => ?_) (fun cdv A outer s H vs Q E hr h => ?_)
  · obtain ⟨a, s, qs, ff, r, rfl, _⟩ := h
    rfl
  · obtain ⟨a, s, qs, ff, r, rfl, hq, nd, l40, hs, hm, k⟩ := h
    have hu := hu_of hr
    refine ⟨_, (pss_one (ps_ret (pe_dget hu (pe_cl c__law_by_name hr (by decide) (by rfl) (pa_cons (pv 0) (pa_cons (pv 1) pa_nil))) (pv 2) (fun _ _ => rfl)))), ?_⟩
    exact s_ret (ed_dget (k := Sum.inr r.1) (σ := [some (.ref a), some (.ref s), some (.str r.1)]) (ed_byN (ea_cons (ev_var (i := 0) rfl) (ea_cons (ev_var (i := 1) rfl) ea_nil)) hq nd l40 hs) (ev_var (i := 2) rfl) (dI_at nd hm)) fun H1 e1 => k H1 e1
theorem ok__law_state_with (F : Fun K "_law_state_with" "_law_state_with" s__law_state_with f fd) (T : Tx K mg aK tk) (c__law_by_name : Cal P w K mg base CX0 1 "_law_by_name" ["queues", "state"] spByN) (c__law_state : Cal P w K mg base CX0 1 "_law_state" ["queues", "told"] spStateL) : FnOk P w K mg base CX0 2 f fd ["queues", "other", "state", "fresh", "many"] spWithS := by
  refine F.ok sc__law_state_with (fun vs H Q E h => ?_) (fun cdv A outer s H vs Q E hr h => ?_)
  · obtain ⟨a, a2, s, qs, B, ff, z, m, rfl, _⟩ := h
    rfl
  · obtain ⟨a, a2, s, qs, B, ff, z, m, rfl, hq, hq2, nd, l40, lB, hs, hB, k⟩ := h
    have hu := hu_of hr
    refine ⟨_, (pss_cons (ps_set (i := 5) sc__law_state_with.nd rfl (Or.inl rfl) (pe_cl c__law_by_name hr (by decide) (by rfl) (pa_cons (pv 0) (pa_cons (pv 2) pa_nil))))
      (pss_cons (ps_dput hu (pv 5) (pv 3) (pv 4) rfl)
      (pss_one (ps_ret (pe_cl c__law_state hr (by decide) (by rfl) (pa_cons (pv 1) (pa_cons (pv 5) pa_nil))))))), ?_⟩
    refine q_asgD (σ := [some (.ref a), some (.ref a2), some (.ref s), some (.str z), some (.int (m : Nat)), none]) (ed_byN (ea_cons (ev_var (i := 0) rfl) (ea_cons (ev_var (i := 2) rfl) ea_nil)) hq nd l40 hs) fun d H1 hd0 e1 hd => ?_
    refine q_dput (σ := [some (.ref a), some (.ref a2), some (.ref s), some (.str z), some (.int (m : Nat)), some (.ref d)]) (a := d) (k := Sum.inr z) (v := .int (m : Nat)) (ev_var (i := 4) rfl) (ev_var (i := 5) rfl) (ev_var (i := 3) rfl) fun H2 e2 => ⟨_, e2 _ _ hd, small1000 (by rw [dI_len]; omega), ?_⟩
    have hd2 : (upd H2 d (.dK (putK (tolK qs ff) (Sum.inr z) (.int (m : Nat))))) d = some (.dK (putK (tolK qs ff) (Sum.inr z) (.int (m : Nat)))) := upd_same
    have x2 : Ex H (upd H2 d (.dK (putK (tolK qs ff) (Sum.inr z) (.int (m : Nat))))) := Ex.mut (e1.trans e2) hd0
    generalize upd H2 d (.dK (putK (tolK qs ff) (Sum.inr z) (.int (m : Nat)))) = H3 at hd2 x2
    show tCall spStateL [] E0 (tCons (tVar 1) (tCons (tVar 5) tNil)) [some (.ref a), some (.ref a2), some (.ref s), some (.str z), some (.int (m : Nat)), some (.ref d)] H3 Q
    refine (ea_cons (ev_var (i := 1) rfl) (ea_cons (ev_var (i := 5) rfl) ea_nil) : EvA _ [some (.ref a), some (.ref a2), some (.ref s), some (.str z), some (.int (m : Nat)), some (.ref d)] H3 [.ref a2, .ref d]) H3 (Ex.refl _) _ fun H4 e4 => ?_
    refine ⟨a2, d, B, _, ext z m ff, rfl, hq2.tx (TX.of (x2.trans e4)), lB, e4 _ _ hd2, fun R hR => ?_, fun p H5 _ e5 hp => k p H5 (x2.trans (e4.trans e5)) hp⟩
    rw [valV_put]
    by_cases e : R.1 = z
    · rw [if_pos (by rw [e]), e, KQ.ext_F]
    · rw [if_neg fun y => e (Sum.inr.inj y), KQ.ext_ne e]
      rcases hB R hR with h | ⟨r, hr2, h⟩
      · exact absurd h e
      · rw [← h]
        exact dI_at nd hr2
end
end NQ
namespace NQ
open PySem PySem.Spec PyProof.Rows L2 Evl
open KQ (Row held Opt addC setC mc)
section
variable {qs : List (Row Str)} {z : Str} {v : Int}
theorem add_mc : addcash z v qs = mc (fun r => if r.1 = z then r.2.1 + v else r.2.1) qs := rfl
theorem recash_mc : recash z v qs = mc (fun r => if r.1 = z then v else r.2.1) qs := rfl
theorem mc_names (g : Row Str → Int) : names (mc g qs) = names qs := by
  show List.map _ (List.map _ qs) = List.map _ qs
  rw [List.map_map]
  rfl
theorem mc_tolK (g : Row Str → Int) (f : Str → Nat) : tolK (mc g qs) f = tolK qs f := by
  unfold tolK dI mc
  rw [List.map_map]
  rfl
theorem mc_well (g : Row Str → Int) (W : WellQ qs) : WellQ (mc g qs) := by
  refine ⟨by show 1 ≤ (List.map _ qs).length; rw [List.length_map]; exact W.l1, by show (List.map _ qs).length ≤ 40; rw [List.length_map]; exact W.l40, by rw [mc_names]; exact W.nd, fun q hq => ?_, fun q hq => ?_, fun q hq => ?_, fun q hq => ?_⟩
  · obtain ⟨r, hr, rfl⟩ := KQ.mc_mem hq
    exact W.pos r hr
  · obtain ⟨r, hr, rfl⟩ := KQ.mc_mem hq
    exact W.len r hr
  · obtain ⟨r, hr, rfl⟩ := KQ.mc_mem hq
    rw [mc_names]
    exact W.mem r hr
  · obtain ⟨r, hr, rfl⟩ := KQ.mc_mem hq
    exact W.ok r hr
theorem mc_goodQ (g : Row Str → Int) (G : GoodQ qs) (h0 : ∀ r ∈ qs, 0 ≤ g r) (h1 : ∀ r ∈ qs, g r ≤ 1000000) : GoodQ (mc g qs) := by
  have hl : (mc g qs).length = qs.length := List.length_map ..
  refine ⟨by rw [hl]; exact G.l1, by rw [hl]; exact G.l40, by rw [mc_names]; exact G.asc, fun q hq => ?_, fun q hq => ?_, fun q hq => ?_, fun q hq => ?_⟩
  · obtain ⟨r, hr, rfl⟩ := KQ.mc_mem hq
    exact G.nm r hr
  · obtain ⟨r, hr, rfl⟩ := KQ.mc_mem hq
    exact h0 r hr
  · obtain ⟨r, hr, rfl⟩ := KQ.mc_mem hq
    exact h1 r hr
  · obtain ⟨r, hr, rfl⟩ := KQ.mc_mem hq
    rw [mc_names]
    exact G.pay r hr
theorem mc_cash (g : Row Str → Int) (nd : (names qs).Nodup) {r : Row Str} (h : r ∈ qs) : cashF (mc g qs) r.1 = g r := cashF_at (by rw [mc_names]; exact nd) (KQ.mc_in (g := g) h)
end
theorem mem_name {qs : List (Row Str)} {z : Str} (h : z ∈ names qs) : ∃ r ∈ qs, r.1 = z := List.mem_map.mp h
abbrev rNotN' : R2 := fun x y H Q => y = .non ∧ Q (.bl (!decide (x = .non))) H
/-- counts of payments made, a new dict -/
def EvTold (m : Bool) (qs : List (Row Str)) (te : TE) (σ : L2.St) (H : Hp) : Prop := ∀ H1, Ex H H1 → ∀ Q : VK, (∀ p f H2, H1 p = none → Ex H1 H2 → Opt m qs (cashF qs) f → H2 p = some (.dK (tolK qs f)) → Q (.ref p) H2) → te σ H1 Q
/-- a state -/
def EvSt (qs : List (Row Str)) (f : Str → Nat) (te : TE) (σ : L2.St) (H : Hp) : Prop := ∀ H1, Ex H H1 → ∀ Q : VK, (∀ p H2, Ex H1 H2 → StH H2 p qs f → Q (.ref p) H2) → te σ H1 Q
def spOwn : Bool → Sp
  | true => spRunL
  | false => spBackL
def spWork : Bool → Sp
  | true => spFin
  | false => spGre
section
variable {K : PySem.W.Frag} {σ : L2.St} {H H' : Hp} {ta tb tc te td ty tl : TE} {t u tt : TT} {x y z v : V} {tr : TA} {D : Ends} {tz tu : TS}
theorem gv_q {a : Addr} {qs : List (Row Str)} (h : Ev te σ H (.ref a)) (hq : QH H a qs) : Gv te σ H (fun w H2 => ∃ p, w = .ref p ∧ QH H2 p qs) := fun H1 e Q q => h H1 e _ fun H2 e2 => q _ H2 e2 ⟨a, rfl, hq.tx (TX.of (e.trans e2))⟩
theorem told_run {qs : List (Row Str)} (h : Gv te σ H (fun w H2 => ∃ p, w = .ref p ∧ QH H2 p qs)) (W : WellQ qs) : EvTold true qs (tCall spRunL [] E0 (tCons te tNil)) σ H := fun H1 e Q q => by
  refine h H1 e _ fun w H2 e2 ⟨p, hw, hq⟩ => ?_
  subst hw
  exact ⟨p, qs, rfl, hq, W, fun d f H' hd e3 hl hd' => q d f H' (fresh_back e2 hd) (e2.trans e3) hl hd'⟩
theorem told_own {m : Bool} {i : Nat} {fa : Addr} {S : Addr → Option Sp} {qs : List (Row Str)} (hi : σ[i]? = some (some (.ref fa))) (hS : S fa = some (spOwn m)) (h : Gv te σ H (fun w H2 => ∃ p, w = .ref p ∧ QH H2 p qs)) (W : WellQ qs) (h0 : ∀ r ∈ qs, 0 ≤ r.2.1) : EvTold m qs (tCallA i S (tCons te tNil)) σ H := fun H1 e Q q => by
  refine ⟨fa, spOwn m, hi, hS, ?_⟩
  refine h H1 e _ fun w H2 e2 ⟨p, hw, hq⟩ => ?_
  subst hw
  cases m
  · exact ⟨p, qs, rfl, hq, W, h0, fun d f H' hd e3 hl hd' => q d f H' (fresh_back e2 hd) (e2.trans e3) hl hd'⟩
  · exact ⟨p, qs, rfl, hq, W, fun d f H' hd e3 hl hd' => q d f H' (fresh_back e2 hd) (e2.trans e3) hl hd'⟩
theorem est_stateL {a t : Addr} {qs : List (Row Str)} {kvs : List (Key × V)} {f : Str → Nat} (h : EvA tr σ H [.ref a, .ref t]) (hq : QH H a qs) (l40 : qs.length ≤ 40) (ht : H t = some (.dK kvs)) (hv : ∀ r ∈ qs, valV kvs (Sum.inr r.1) = some (.int (f r.1 : Nat))) : EvSt qs f (tCall spStateL [] E0 tr) σ H := fun H1 e Q q => by
  refine h H1 e _ fun H2 e2 => ?_
  rw [List.append_nil]
  exact ⟨a, t, qs, kvs, f, rfl, hq.tx (TX.of (e.trans e2)), l40, (e.trans e2) _ _ ht, hv, fun p H' hp e3 hst => q p H' (e2.trans e3) hst⟩
theorem flow_true {qs : List (Row Str)} {f g : Str → Nat} : flowB qs f g = true ↔ KQ.EqOn qs f g := by
  unfold flowB
  rw [decide_eq_true_eq, stI_eq]
/-- work(x) != a state that is it -/
theorem ev_workSame {m : Bool} {i : Nat} {fa a : Addr} {S : Addr → Option Sp} {qs : List (Row Str)} {f : Str → Nat} (hi : σ[i]? = some (some (.ref fa))) (hS : S fa = some (spWork m)) (h : Ev ta σ H (.ref a)) (hq : QH H a qs) (G : GoodQ qs) (h2 : EvSt qs f tb σ H) (ho : Opt m qs (cashF qs) f) :
    Ev (tOp (rNeD K) (tCallA i S (tCons ta tNil)) tb) σ H (.bl false) := fun H1 e Q q => by
  have fin : ∀ (g : Str → Nat) s H2, Opt m qs (cashF qs) g → Ex H1 H2 → StH H2 s qs g → tb σ H2 fun y H3 => rNeD K (.ref s) y H3 Q := fun g s H2 hg e2 hs => by
    refine h2 H2 (e.trans e2) _ fun p H3 e3 hp => ?_
    refine ⟨_, _, dp_stT (e3 _ _ hs), dp_stT hp, shaped_intsT _, shaped_intsT _, ?_⟩
    rw [eqv_intsT, decide_eq_true (stI_eq.mpr (hg.eq ho))]
    exact q H3 (e2.trans e3)
  refine ⟨fa, spWork m, hi, hS, ?_⟩
  refine h H1 e _ fun H2 e2 => ?_
  cases m
  · exact ⟨a, qs, rfl, hq.tx (TX.of (e.trans e2)), G, fun g s H3 hg e3 hs => fin g s H3 hg (e2.trans e3) hs⟩
  · exact ⟨a, qs, rfl, hq.tx (TX.of (e.trans e2)), G, fun g s H3 hg e3 hs => fin g s H3 hg (e2.trans e3) hs⟩
/-- gridlock_paper(x)[0] -/
theorem ev_grid {qs : List (Row Str)} {f g : Str → Nat} (h : Gv te σ H (fun w H2 => ∃ p, w = .ref p ∧ QH H2 p qs)) (G : GoodQ qs) (hf : KQ.Least qs (cashF qs) f) (hg : KQ.Great qs (cashF qs) g) : Ev (tOp (rIxT K) (tCall spGrid [] E0 (tCons te tNil)) (tC (.int 0))) σ H (.str (wordS (flowB qs f g))) := fun H1 e Q q => by
  refine h H1 e _ fun w H2 e2 ⟨p, hw, hq⟩ => ?_
  subst hw
  refine ⟨p, qs, rfl, hq, G, fun f1 g1 pp H3 l1 g1' e3 hgp => ?_⟩
  obtain ⟨x, y, _, hp, _⟩ := hgp
  refine ⟨pp, [.str (wordS (flowB qs f1 g1)), .ref x, .ref y], 0, .str (wordS (flowB qs f1 g1)), rfl, rfl, st_of hp, at_of (j := 0) rfl rfl, ?_⟩
  have e1 : flowB qs f1 g1 = flowB qs f g := by
    rw [Bool.eq_iff_iff, flow_true, flow_true]
    have a1 := KQ.least_eq l1 hf
    have a2 := KQ.great_eq g1' hg
    constructor
    · intro h r hr
      rw [← a1 r hr, ← a2 r hr]
      exact h r hr
    · intro h r hr
      rw [a1 r hr, a2 r hr]
      exact h r hr
  rw [e1]
  exact q H3 (e2.trans e3)
/-- needed_cash(..), its goal a new state -/
theorem gv_need {a : Addr} {qs : List (Row Str)} {r : Row Str} {f : Str → Nat} (h1 : Ev ta σ H (.ref a)) (h2 : Ev tb σ H (.str r.1)) (h3 : EvSt qs f tc σ H) (hq : QH H a qs) (G : GoodQ qs) (hm : r ∈ qs) (hw : KQ.Within qs f) :
    Gv (tCall spNeed [] E0 (tCons ta (tCons tb (tCons tc tNil)))) σ H (fun v _ => ∃ o, v = optV o ∧ KQ.Need qs (cashF qs) r.1 f o) := fun H1 e Q q => by
  refine h1 H1 e _ fun H2 e2 => h2 H2 (e.trans e2) _ fun H3 e3 => h3 H3 ((e.trans e2).trans e3) _ fun p H4 e4 hp => ?_
  have e14 := (e2.trans e3).trans e4
  exact ⟨a, p, qs, r, f, rfl, hq.tx (TX.of (e.trans e14)), G, hm, hp, hw, fun v H5 hn e5 => q _ H5 (e14.trans e5) ⟨v, rfl, hn⟩⟩
theorem ev_neNeed {P1 P2 : Option Int → Prop} (h1 : Gv ta σ H (fun v _ => ∃ o, v = optV o ∧ P1 o)) (h2 : Gv tb σ H (fun v _ => ∃ o, v = optV o ∧ P2 o)) (he : ∀ v w, P1 v → P2 w → v = w) : Ev (tOp rNe ta tb) σ H (.bl false) := fun H1 e Q q => by
  refine h1 H1 e _ fun v H2 e2 ⟨o, hv, p1⟩ => h2 H2 (e.trans e2) _ fun w H3 e3 ⟨o2, hw, p2⟩ => ?_
  subst hv
  subst hw
  have := he o o2 p1 p2
  subst this
  refine ⟨by cases o <;> rfl, ?_⟩
  rw [decide_eq_true rfl]
  exact q H3 (e2.trans e3)
/-- the law's draw stands at another name -/
theorem do_pickL' {i : Nat} {a l c : Addr} {N : Nat} {xs : List V} {E : XK} (h0 : σ[i]? = some (some (.ref a))) (hv : EvL te σ H xs) (hD : Dr a l c N H) (hN : N < 1000000) (h1 : 0 < xs.length) (h2 : xs.length < 100000) {Q : VK}
    (q : ∀ x H2, x ∈ xs → Dr a l c (N + 1) H2 → ExD a l H H2 → Q x H2) : tCall spPick [] E (tCons (tVar i) (tCons te tNil)) σ H Q :=
  ⟨.ref a, h0, hv H (Ex.refl H) _ fun p H1 hp e1 hp1 => by
    have nf := hD.fresh hp
    exact ⟨a, l, c, N, .ref p, xs, rfl, hD.mono e1, hN, Or.inl ⟨p, rfl, Or.inl hp1, nf.1, nf.2.1⟩, h1, h2, fun x H2 hx d e => q x H2 hx d ((ExD.of e1).trans e)⟩⟩
theorem do_lists {i : Nat} {a l c : Addr} {N : Nat} {ns : List Str} {E : XK} (h0 : σ[i]? = some (some (.ref a))) (hv : EvL te σ H (ns.map V.str)) (hD : Dr a l c N H) (hN : N + 3000 < 1000000) (nd : ns.Nodup) (hg : ∀ z ∈ ns, GoodN z ∧ PyData.strOk z = true) (n2 : 2 ≤ ns.length) (n20 : ns.length ≤ 20) {Q : VK}
    (q : ∀ p qs H2, GoodQ qs → (names qs).Perm ns → (∀ r ∈ qs, r.2.2.length ≤ 4 ∧ r.2.1 ≤ 6 ∧ ∀ x ∈ r.2.2, x.2 ≤ 4) → QH H2 p qs → Dr a l c (N + 400) H2 → ExD a l H H2 → Q (.ref p) H2) :
    tCall spLists [] E (tCons (tVar i) (tCons te (tCons (tC (.int 4)) (tCons (tC (.int 4)) tNil)))) σ H Q :=
  ⟨.ref a, h0, hv H (Ex.refl H) _ fun p H1 hp e1 hp1 => by
    have nf := hD.fresh hp
    exact ⟨a, l, c, N, p, ns, 4, 4, rfl, hD.mono e1, hN, hp1, nf.2.1, nd, hg, n2, n20, by decide, by decide, by decide, fun p qs H2 g hper hb hq d e => q p qs H2 g hper hb hq d ((ExD.of e1).trans e)⟩⟩
end
end NQ
namespace NQ
open PySem PySem.Spec PyProof.Rows L2 Evl
open KQ (Row toF)
/-- the rows of a system in which a house pays through a new one -/
def thruR (h z : Str) (qs : List (Row Str)) : List (Row Str) := qs.flatMap fun r => if r.1 = h then [(z, 0, r.2.2), (r.1, r.2.1, toF z r.2.2)] else [r]
theorem thru_snoc (h z : Str) (qs : List (Row Str)) (r : Row Str) : thruR h z (qs ++ [r]) = thruR h z qs ++ (if r.1 = h then [(z, 0, r.2.2), (r.1, r.2.1, toF z r.2.2)] else [r]) := by
  unfold thruR
  rw [List.flatMap_append, List.flatMap_cons, List.flatMap_nil, List.append_nil]
theorem thru_no {h z : Str} : ∀ {qs : List (Row Str)}, (∀ r ∈ qs, r.1 ≠ h) → thruR h z qs = qs
  | [], _ => rfl
  | r :: qs, k => by
    show (if r.1 = h then _ else _) ++ thruR h z qs = _
    rw [if_neg (k r List.mem_cons_self), thru_no fun q hq => k q (List.mem_cons_of_mem _ hq)]
    rfl
/-- the rows, told as one row and the rest -/
theorem thru_perm {h z : Str} {qs : List (Row Str)} (nd : (names qs).Nodup) {r0 : Row Str} (h0 : r0 ∈ qs) (e : r0.1 = h) : ∃ rest, qs.Perm (r0 :: rest) ∧ (thruR h z qs).Perm ((z, 0, r0.2.2) :: (r0.1, r0.2.1, toF z r0.2.2) :: rest) := by
  obtain ⟨pre, post, rfl⟩ := List.append_of_mem h0
  refine ⟨pre ++ post, List.perm_middle, ?_⟩
  have n1 : ∀ r ∈ pre ++ post, r.1 ≠ h := fun r hr z => by
    have hp : (names (pre ++ r0 :: post)).Perm (names (r0 :: (pre ++ post))) := List.perm_middle.map _
    have := (List.nodup_cons.mp (hp.nodup_iff.mp nd)).1
    exact this (List.mem_map.mpr ⟨r, hr, z.trans e.symm⟩)
  have e1 : thruR h z (pre ++ r0 :: post) = pre ++ ((z, 0, r0.2.2) :: (r0.1, r0.2.1, toF z r0.2.2) :: post) := by
    unfold thruR
    rw [List.flatMap_append, List.flatMap_cons, if_pos e]
    have a1 : pre.flatMap (fun r => if r.1 = h then [(z, 0, r.2.2), (r.1, r.2.1, toF z r.2.2)] else [r]) = pre := thru_no (h := h) (z := z) fun r hr => n1 r (List.mem_append_left _ hr)
    have a2 : post.flatMap (fun r => if r.1 = h then [(z, 0, r.2.2), (r.1, r.2.1, toF z r.2.2)] else [r]) = post := thru_no (h := h) (z := z) fun r hr => n1 r (List.mem_append_right _ hr)
    rw [a1, a2]
    rfl
  rw [e1]
  refine List.perm_middle.trans (List.Perm.cons _ ?_)
  exact List.perm_middle
theorem thru_names {h z : Str} : ∀ {qs : List (Row Str)} {y : Str}, y ∈ names (thruR h z qs) → y = z ∨ y ∈ names qs
  | r :: qs, y, hy => by
    have e : names (thruR h z (r :: qs)) = names (if r.1 = h then [(z, 0, r.2.2), (r.1, r.2.1, toF z r.2.2)] else [r]) ++ names (thruR h z qs) := by
      show List.map _ ((if r.1 = h then _ else _) ++ thruR h z qs) = _
      rw [List.map_append]
    rw [e, List.mem_append] at hy
    rcases hy with hy | hy
    · by_cases k : r.1 = h
      · rw [if_pos k] at hy
        rcases List.mem_cons.mp hy with q | q
        · exact Or.inl q
        · rw [List.mem_singleton.mp q]
          exact Or.inr List.mem_cons_self
      · rw [if_neg k] at hy
        rw [List.mem_singleton.mp hy]
        exact Or.inr List.mem_cons_self
    · rcases thru_names hy with q | q
      · exact Or.inl q
      · exact Or.inr (List.mem_cons_of_mem _ q)
def spThru : Sp := fun vs H Q _ => ∃ (a : Addr) (qs : List (Row Str)) (h z : Str), vs = [.ref a, .str h, .str z] ∧ QH H a qs ∧ qs.length ≤ 40 ∧ (∀ r ∈ qs, r.2.2.length ≤ 60) ∧ (names (thruR h z qs)).Nodup ∧ ∀ p B H', Ex H H' → B.Perm (thruR h z qs) → AscS (names B) → QH H' p B → Q (.ref p) H'
theorem refs_of {R : Addr → α → Prop} {w : Nat → α} {is : List Nat} {ys : List V} (h : Paired (fun i v => ∃ p, v = V.ref p ∧ R p (w i)) is ys) : ∃ ps : List Addr, ys = ps.map V.ref ∧ Paired R ps (is.map w) := by
  induction h with
  | nil => exact ⟨[], rfl, .nil⟩
  | cons h1 _ ih =>
    obtain ⟨p, e, hp⟩ := h1
    obtain ⟨ps, e2, h2⟩ := ih
    exact ⟨p :: ps, by rw [e, e2]; rfl, .cons hp h2⟩
section
variable {K : PySem.W.Frag} {σ : L2.St} {H H0 : Hp} {ta tb tc tl te : TE} {D : Ends} {tz : TS}
/-- found.append((name, cash, payments)) -/
theorem s_appRow {fo q2 : Addr} {ps1 : List Addr} {rows1 : List (Row Str)} {r2 : Row Str} (hl : Ev tl σ H (.ref fo)) (h1 : Ev ta σ H (.str r2.1)) (h2 : Ev tb σ H (.int r2.2.1)) (h3 : Ev tc σ H (.ref q2)) (e0 : Ex H0 H) (hf0 : H0 fo = none) (hf : H fo = some (.lst (ps1.map V.ref))) (hpr : Paired (RowH H) ps1 rows1) (hq : PayH H q2 r2.2.2) (hz : ps1.length < 1000)
    (k : ∀ p H', Ex H0 H' → TX H H' → H' fo = some (.lst ((ps1 ++ [p]).map V.ref)) → Paired (RowH H') (ps1 ++ [p]) (rows1 ++ [r2]) → D.nx σ H') :
    tDrop (tBM K "list" rAppend tl (tCons (tTup (tCons ta (tCons tb (tCons tc tNil)))) tNil)) D σ H := by
  refine s_appG (K := K) hf hl (gv_tup3 h1 h2 h3) (by rw [List.length_map]; omega) fun v H1 e1 ⟨p, hv, hp⟩ => ?_
  subst hv
  have hf1 := e1 _ _ hf
  have tx : TX H1 (upd H1 fo (.lst (ps1.map V.ref ++ [.ref p]))) := TX.updL hf1
  have hrow : RowH H1 p r2 := ⟨q2, hp, hq.tx (TX.of e1)⟩
  refine k p _ (Ex.mut (e0.trans e1) hf0) ((TX.of e1).trans tx) (by rw [upd_same, List.map_append]; rfl) (paired_snoc (L2.Paired.mapP hpr fun p x h => h.tx ((TX.of e1).trans tx)) (hrow.tx tx))
theorem q_appRow {fo q2 : Addr} {ps1 : List Addr} {rows1 : List (Row Str)} {r2 : Row Str} (hl : Ev tl σ H (.ref fo)) (h1 : Ev ta σ H (.str r2.1)) (h2 : Ev tb σ H (.int r2.2.1)) (h3 : Ev tc σ H (.ref q2)) (e0 : Ex H0 H) (hf0 : H0 fo = none) (hf : H fo = some (.lst (ps1.map V.ref))) (hpr : Paired (RowH H) ps1 rows1) (hq : PayH H q2 r2.2.2) (hz : ps1.length < 1000)
    (k : ∀ p H', Ex H0 H' → TX H H' → H' fo = some (.lst ((ps1 ++ [p]).map V.ref)) → Paired (RowH H') (ps1 ++ [p]) (rows1 ++ [r2]) → tz D σ H') :
    tSeq (tDrop (tBM K "list" rAppend tl (tCons (tTup (tCons ta (tCons tb (tCons tc tNil)))) tNil))) tz D σ H := s_appRow (D := { D with nx := fun σ' H' => tz D σ' H' }) hl h1 h2 h3 e0 hf0 hf hpr hq hz k
/-- tuple of a list of new pairs -/
theorem gv_paysT {n : Nat} {xs : List (Str × Int)} {w : Nat → Str × Int} (h : EvG te σ H (idxs n (fun _ => true)) (fun i v H => ∃ p, v = .ref p ∧ PairH H p (w i))) (hw : (List.range n).map w = xs) : Gv (tCB (rTupS K) (tCons te tNil)) σ H (fun v H2 => ∃ q, v = .ref q ∧ PayH H2 q xs) := fun H1 e Q q => by
  refine h H1 e _ fun p ys H2 hp0 e2 hp hpr => ?_
  rw [idxs_all] at hpr
  obtain ⟨ps, rfl, h2⟩ := refs_of hpr
  rw [hw] at h2
  refine ⟨p, ps.map V.ref, rfl, Or.inl ⟨sq_of hp, fun l hl => ?_⟩⟩
  have x3 : Ex H2 (upd H2 l (.tup (ps.map V.ref))) := Ex.new hl
  exact q _ _ (e2.trans x3) ⟨l, rfl, ps, upd_same, L2.Paired.mapP h2 fun p x z => z.tx (TX.of x3)⟩
end
section
variable {P : Program} {w : World} {K : PySem.W.Frag} {mg : Str → Option Value} {base : Heap} {f : Addr} {fd : FuncData} {aK : Addr} {tk : Tk}
theorem ok__law_through (F : Fun K "_law_through" "_law_through" s__law_through f fd) (T : Tx K mg aK tk) : FnOk P w K mg base CX0 1 f fd ["queues", "house", "fresh"] spThru := by
  refine F.ok sc__law_through (fun vs H Q E h => ?_) (fun cdv A outer s H vs Q E hr h => ?_)
  · obtain ⟨a, qs, h, z, rfl, _⟩ := h
    rfl
  · obtain ⟨a, qs, h, z, rfl, ⟨b, ha, ps, hb, hpr⟩, l40, l60, nd, k⟩ := h
    have hu := hu_of hr
    refine ⟨_, (pss_cons (ps_set (i := 3) sc__law_through.nd rfl (Or.inl rfl) (pe_lst pa_nil))
      (pss_cons (ps_for PassesOwn.never rfl (piTup (K := K) rfl (pe_ix (ixT (K := K) rfl) (pv 0) pe_int (fun _ _ => rfl))) (pgTup (K := K) (n := 3) rfl rfl (pgs_cons (pg_name (i := 4) sc__law_through.nd rfl (Or.inl rfl)) (pgs_cons (pg_name (i := 5) sc__law_through.nd rfl (Or.inl rfl)) (pgs_cons (pg_name (i := 6) sc__law_through.nd rfl (Or.inl rfl)) pgs_nil))))
        (pss_cons (ps_if (pt_cmpR op_eq (pv 4) (pv 1) (nomark _))
        (pss_cons (ps_expr (pe_bm PySem.F.plainAttrs_list PySem.F.slot_list_append PySem.F.type_list_append mt_append (pv 3) (pa_cons (pe_tup (pa_cons (pv 2) (pa_cons pe_int (pa_cons (pv 6) pa_nil)))) pa_nil)))
      (pss_one (ps_set (i := 6) sc__law_through.nd rfl (Or.inl rfl) (pe_callTy (crTup (K := K) rfl) (by rfl) T.tuple (by decide +kernel) (pa_cons (pe_lc (own := [("other", 7), ("amount", 8)]) rfl sc__law_through.nd (piTup (K := K) rfl (pv 6)) (blkOk_by (own := [("other", 7), ("amount", 8)]) (N := N__law_through) (sc := defScope s__law_through) (by decide +kernel)) (fun _ _ _ _ _ => (pgTup (K := K) (n := 2) rfl rfl (pgs_cons (pg_name (i := 7) sc__law_through.nd rfl (Or.inl rfl)) (pgs_cons (pg_name (i := 8) sc__law_through.nd rfl (Or.inl rfl)) pgs_nil)))) (fun _ _ _ _ _ => pts_nil) (fun _ _ _ _ _ => (pe_tup (pa_cons (pv 2) (pa_cons (pv 8) pa_nil))))) pa_nil)))))
        pss_nil)
      (pss_one (ps_expr (pe_bm PySem.F.plainAttrs_list PySem.F.slot_list_append PySem.F.type_list_append mt_append (pv 3) (pa_cons (pe_tup (pa_cons (pv 4) (pa_cons (pv 5) (pa_cons (pv 6) pa_nil)))) pa_nil))))))
      (pss_one (ps_ret (pe_tup (pa_cons pe_str (pa_cons (pe_callTy (crTup (K := K) rfl) (by rfl) T.tuple (by decide +kernel) (pa_cons (pe_callB (crSortedN (K := K) rfl) (by rfl) T.sorted (by decide +kernel) (pa_cons (pv 3) pa_nil)) pa_nil)) pa_nil))))))), ?_⟩
    have hlen : (ps.map V.ref).length = qs.length := by rw [List.length_map, paired_len hpr]
    refine q_asgL (σ := [some (.ref a), some (.str h), some (.str z), none, none, none, none, none, none]) (el_lst ea_nil (by decide)) fun fo H1 hf0 e1 hf => ?_
    refine q_forT (K := K) (a := b) (xs := ps.map V.ref) (σ := [some (.ref a), some (.str h), some (.str z), some (.ref fo), none, none, none, none, none]) (ev_houses (K := K) (ev_var (i := 0) rfl) (e1 _ _ ha)) (st_of (e1 _ _ hb))
      (fun i σ' H' => ∃ (ps1 : List Addr) (y4 y5 y6 : Option V), σ' = [some (.ref a), some (.str h), some (.str z), some (.ref fo), y4, y5, y6, none, none] ∧ Ex H H' ∧ H' fo = some (.lst (ps1.map V.ref)) ∧ Paired (RowH H') ps1 (thruR h z (qs.take i)) ∧ ps1.length ≤ 2 * i)
      (fun H2 e2 => ⟨[], none, none, none, rfl, e1.trans e2, e2 _ _ hf, .nil, Nat.zero_le _⟩) (fun i σ' H' _ hP => ?_) (fun i x σ' H' hx hP => ?_) (fun σ' H' hP => ?_)
    · obtain ⟨_, _, _, _, _, e, _⟩ := hP
      exact st_of (e _ _ hb)
    · obtain ⟨ps1, y4, y5, y6, rfl, eH, hfo, hpr1, hl1⟩ := hP
      obtain ⟨p, r, rfl, _, hqr, q', hrow, hpay⟩ := RowsH.at hpr hx
      have hi := (List.getElem?_eq_some_iff.mp hqr).1
      have hrm := List.mem_of_getElem? hqr
      refine g_tup3 (i := 4) (j := 5) (l := 6) (eH _ _ hrow) ?_
      have etake : qs.take (i + 1) = qs.take i ++ [r] := KQ.take_succ_of hqr
      refine q_when (σ := [some (.ref a), some (.str h), some (.str z), some (.ref fo), some (.str r.1), some (.int r.2.1), some (.ref q'), none, none]) (b := decide (r.1 = h)) (et_is (et_test (ev_eqV rfl (ev_var (i := 4) rfl) (ev_var (i := 1) rfl))) (decide_eq_decide.mpr (by rw [V.str.injEq]))) (fun hh H2 e2 => ?_) (fun hh H2 e2 => ?_)
      · have hh := of_decide_eq_true hh
        have e02 := eH.trans e2
        refine q_appRow (K := K) (H0 := H) (r2 := (z, 0, r.2.2)) (ev_var (i := 3) rfl) (ev_var (i := 2) rfl) ev_c (ev_var (i := 6) rfl) e02 hf0 (e2 _ _ hfo) (L2.Paired.mapP hpr1 fun p x z => z.tx (TX.of e2)) (hpay.tx (TX.of e02)) (by omega) fun p1 H3 e3 tx3 hfo3 hpr3 => ?_
        obtain ⟨psp, hq', hprp⟩ := hpay
        have hl2 : (psp.map V.ref).length = r.2.2.length := by rw [List.length_map, paired_len hprp]
        refine s_asgG (σ := [some (.ref a), some (.str h), some (.str z), some (.ref fo), some (.str r.1), some (.int r.2.1), some (.ref q'), none, none]) (gv_paysT (K := K) (n := (psp.map V.ref).length) (xs := toF z r.2.2) (w := fun j => (z, (r.2.2.getD j (("", 0) : Str × Int)).2)) (el_lcG (te := tTup (tCons (tVar 2) (tCons (tVar 8) tNil))) (tt := tYes) (g := gTup K 2 (gCons (gName 7) (gCons (gName 8) gNil))) (vs := [7, 8]) (ei_tup (K := K) (eq_ev (ev_var (i := 6) rfl) (st_of (e3 _ _ hq')))) (by rw [hl2]; have := l60 r hrm; omega) (fun _ => true) _ (fun i v H1 H2 e ⟨p, hv, hp⟩ => ⟨p, hv, hp.tx e⟩) fun j x H5 H6 e5 hj hy => by
            obtain ⟨rfl, hx⟩ := hy
            obtain ⟨px, hpx, rfl⟩ := map_at hx
            obtain ⟨xx, hxx⟩ := get_of (l := r.2.2) (i := j) rfl (by rw [hl2] at hj; exact hj)
            have hh2 : H px = some (.tup [.str xx.1, .int xx.2]) := paired_at hprp hpx hxx
            refine ⟨Ex.refl _, _, fun R h => g_tup2 (i := 7) (j := 8) ((e3.trans e5) _ _ hh2) h, rfl, et_yes, fun _ => ?_⟩
            rw [getD_of hxx]
            exact gv_pair (ev_var (i := 2) rfl) (ev_var (i := 8) rfl)) (by
            rw [hl2]
            exact map_range_getD (("", 0) : Str × Int) (fun x : Str × Int => (z, x.2)) r.2.2)) fun v H4 e4 ⟨q2, hv, hq2⟩ => ?_
        subst hv
        refine s_appRow (K := K) (H0 := H) (r2 := (r.1, r.2.1, toF z r.2.2)) (ev_var (i := 3) rfl) (ev_var (i := 4) rfl) (ev_var (i := 5) rfl) (ev_var (i := 6) rfl) (e3.trans e4) hf0 (e4 _ _ hfo3) (L2.Paired.mapP hpr3 fun p x z => z.tx (TX.of e4)) hq2 (by rw [List.length_append, List.length_singleton]; omega) fun p2 H5 e5 tx5 hfo5 hpr5 => ?_
        refine ⟨_, _, _, _, rfl, e5, hfo5, ?_, by rw [List.length_append, List.length_append, List.length_singleton, List.length_singleton]; omega⟩
        rw [etake, thru_snoc, if_pos hh]
        rw [List.append_assoc (thruR h z (qs.take i))] at hpr5
        exact hpr5
      · have hh := of_decide_eq_false hh
        have e02 := eH.trans e2
        refine s_appRow (K := K) (H0 := H) (r2 := r) (ev_var (i := 3) rfl) (ev_var (i := 4) rfl) (ev_var (i := 5) rfl) (ev_var (i := 6) rfl) e02 hf0 (e2 _ _ hfo) (L2.Paired.mapP hpr1 fun p x z => z.tx (TX.of e2)) (hpay.tx (TX.of e02)) (by omega) fun p2 H5 e5 tx5 hfo5 hpr5 => ?_
        refine ⟨_, _, _, _, rfl, e5, hfo5, ?_, by rw [List.length_append, List.length_singleton]; omega⟩
        rw [etake, thru_snoc, if_neg hh]
        exact hpr5
    · obtain ⟨ps1, y4, y5, y6, rfl, eH, hfo, hpr1, hl1⟩ := hP
      rw [hlen, List.take_length] at hpr1
      exact s_retG (gv_sortQ (K := K) (σ := [some (.ref a), some (.str h), some (.str z), some (.ref fo), y4, y5, y6, none, none]) (ers_ev (ev_var (i := 3) rfl) hfo hpr1) nd) fun v H2 e2 ⟨p, B, hv, hB, asc, hq⟩ => by
        subst hv
        exact k p B H2 (eH.trans e2) hB asc hq
end
end NQ
namespace NQ
open PySem PySem.Spec PyProof.Rows L2 Evl
open KQ (Row ext setC Reach Both LeastI Stair)
section
variable {K : PySem.W.Frag} {σ : L2.St} {H H' : Hp} {ta tb tc te td ty tl : TE} {t u tt : TT} {x y z v : V} {tr : TA} {D : Ends} {tz tu : TS}
/-- [name for name in names[:3] if name != house] -/
theorem el_others {zs : List Str} {house : Str} {i j : Nat} {nl : Addr} (h : Ev tl σ H (.ref nl)) (hx : SqL K H nl (zs.map V.str)) (hz : zs.length ≤ 100) (hj : j < σ.length) (hij : i ≠ j) (hi : σ[i]? = some (some (.str house))) (hw : ∀ x, wipe ((wipe σ [j]).set j (some x)) [j] = wipe σ [j]) (hwi : ∀ x : Option V, ((wipe σ [j]).set j x)[i]? = σ[i]?) :
    EvL (tLc (iList K tl) (gName j) (tTest (tOp rNe (tVar j) (tVar i))) (tVar j) [j]) σ H ((zs.filter fun z => !decide (z = house)).map V.str) := by
  have hget : ∀ x : V, ((wipe σ [j]).set j (some x))[j]? = some (some x) := fun x => by
    rw [List.getElem?_set_self]
    unfold wipe
    simp
    exact hj
  have key := el_lcL (K := K) (te := tVar j) (t := tTest (tOp rNe (tVar j) (tVar i))) (σ := σ) (H := H) (j := j) (vs := [j]) (fun k => !decide (zs.getD k "" = house)) (fun k => V.str (zs.getD k "")) h hx (by rw [List.length_map]; omega) hw
    (fun k x H1 e1 hx => by
      obtain ⟨z, hz, rfl⟩ := map_at hx
      rw [show zs.getD k "" = z by rw [List.getD_eq_getElem?_getD, hz]; rfl]
      exact et_is (et_test (ev_op (ev_var (hget _)) (ev_var (by rw [hwi]; exact hi)) (rv_ne rfl))) (by rw [show decide (V.str z = V.str house) = decide (z = house) from decide_eq_decide.mpr (by rw [V.str.injEq])]))
    (fun k x H1 e1 hx _ => by
      obtain ⟨z, hz, rfl⟩ := map_at hx
      rw [show zs.getD k "" = z by rw [List.getD_eq_getElem?_getD, hz]; rfl]
      exact ev_var (hget _))
  rw [List.length_map, given_filter ("" : Str) (fun z => !decide (z = house)) V.str zs] at key
  exact key
/-- [name for name in names if b or name != house] -/
theorem el_some {zs : List Str} {house : Str} {b : Bool} {i j k : Nat} {nl : Addr} (h : Ev tl σ H (.ref nl)) (hx : SqL K H nl (zs.map V.str)) (hz : zs.length ≤ 100) (hj : j < σ.length) (hi : σ[i]? = some (some (.str house))) (hk : σ[k]? = some (some (.bl b))) (hw : ∀ x, wipe ((wipe σ [j]).set j (some x)) [j] = wipe σ [j]) (hwi : ∀ x : Option V, ((wipe σ [j]).set j x)[i]? = σ[i]?) (hwk : ∀ x : Option V, ((wipe σ [j]).set j x)[k]? = σ[k]?) :
    EvL (tLc (iList K tl) (gName j) (tOr (tB (tVar k)) (tTest (tOp rNe (tVar j) (tVar i)))) (tVar j) [j]) σ H ((zs.filter fun z => b || !decide (z = house)).map V.str) := by
  have hget : ∀ x : V, ((wipe σ [j]).set j (some x))[j]? = some (some x) := fun x => by
    rw [List.getElem?_set_self]
    unfold wipe
    simp
    exact hj
  have key := el_lcL (K := K) (te := tVar j) (t := tOr (tB (tVar k)) (tTest (tOp rNe (tVar j) (tVar i)))) (σ := σ) (H := H) (j := j) (vs := [j]) (fun k => b || !decide (zs.getD k "" = house)) (fun k => V.str (zs.getD k "")) h hx (by rw [List.length_map]; omega) hw
    (fun m x H1 e1 hx => by
      obtain ⟨z, hz, rfl⟩ := map_at hx
      rw [show zs.getD m "" = z by rw [List.getD_eq_getElem?_getD, hz]; rfl]
      exact et_or (et_B (ev_var (by rw [hwk]; exact hk))) fun _ => et_is (et_test (ev_op (ev_var (hget _)) (ev_var (by rw [hwi]; exact hi)) (rv_ne rfl))) (by rw [show decide (V.str z = V.str house) = decide (z = house) from decide_eq_decide.mpr (by rw [V.str.injEq])]))
    (fun m x H1 e1 hx _ => by
      obtain ⟨z, hz, rfl⟩ := map_at hx
      rw [show zs.getD m "" = z by rw [List.getD_eq_getElem?_getD, hz]; rfl]
      exact ev_var (hget _))
  rw [List.length_map, given_filter ("" : Str) (fun z => b || !decide (z = house)) V.str zs] at key
  exact key
/-- tuple([a draw up to len(part[2]) for part in queues[1]]) -/
theorem do_goal {a l c bb : Addr} {N i j : Nat} {qs : List (Row Str)} {ps : List Addr} (hi : σ[i]? = some (some (.ref a))) (hij : ∀ x : Option V, ((wipe σ [j]).set j x)[i]? = σ[i]?) (W : WellQ qs) (hD : Dr a l c N H) (hN : N + 100 < 1000000) (h : Ev tl σ H (.ref bb)) (hb : H bb = some (.tup (ps.map V.ref))) (hpr : Paired (RowH H) ps qs) (hj : j < σ.length) (hw : ∀ x, wipe ((wipe σ [j]).set j (some x)) [j] = wipe σ [j])
    {Q : VK} (q : ∀ p f H2, H p = none → ExD a l H H2 → Dr a l c (N + 40) H2 → KQ.Within qs f → StH H2 p qs f → Q (.ref p) H2) :
    (tCB (rTupS K) (tCons (tLc (iTup K tl) (gName j) tYes (tCall spTake [] E0 (tCons (tVar i) (tCons (tOp (rI0 fun i j => .int (i + j)) (tCB (rLenS K) (tCons (tOp (rIxT K) (tVar j) (tC (.int 2))) tNil)) (tC (.int 1))) tNil))) [j]) tNil)) σ H Q := by
  have l40 := W.l40
  have nd := W.nd
  have hlen : (ps.map V.ref).length = qs.length := by rw [List.length_map, paired_len hpr]
  have hget : ∀ x : V, ((wipe σ [j]).set j (some x))[j]? = some (some x) := fun x => by
    rw [List.getElem?_set_self]
    unfold wipe
    simp
    exact hj
  refine h H (Ex.refl H) _ fun H1 e1 => ?_
  have d1 := hD.mono e1
  refine ⟨bb, rfl, ⟨_, st_of (e1 _ _ hb)⟩, fun Dl hDl => ?_⟩
  have nf := d1.fresh hDl
  refine lc_tup (xs := ps.map V.ref) (fun k H' => ∃ (ks : List Nat), ks.length = k ∧ ExD a l H1 H' ∧ Dr a l c (N + k) H' ∧ H' Dl = some (.lst (ks.map fun n => V.int (n : Nat))) ∧ ∀ (m : Nat) n r, ks[m]? = some n → qs[m]? = some r → n ≤ r.2.2.length)
    ⟨[], rfl, ExD.of (Ex.new hDl), d1.upd nf, upd_same, fun m n r h => by simp at h⟩ (fun k H' _ p => ?_) (fun k x H' hx p => ?_) (fun H2 p => ?_)
  · obtain ⟨_, _, e, d, _⟩ := p
    exact st_of (d1.tx e _ _ (e1 _ _ hb))
  · obtain ⟨ks, hks, eH, dH, hDl', hall⟩ := p
    obtain ⟨p, r, rfl, _, hqr, q', hrow, ps', hp', hpr'⟩ := RowsH.at hpr hx
    have hk := (List.getElem?_eq_some_iff.mp hqr).1
    refine ⟨hw _, et_yes (σ := (wipe σ [j]).set j (some (V.ref p))) (H := H') H' (Ex.refl _) _ fun H3 e3 => ?_⟩
    rw [if_pos rfl]
    have tx3 : TX H H3 := (TX.of e1).trans ((d1.tx eH).trans (TX.of e3))
    have hl60 := W.len r (List.mem_of_getElem? hqr)
    refine do_take (H := H3) (size := (r.2.2.length : Int) + 1) (ea_cons (ev_var (by rw [hij]; exact hi)) (ea_cons (ev_add (ev_is (ev_lenT (K := K) (ev_op (ev_var (hget _)) ev_c (rv_ixT (K := K) (st_of (tx3 _ _ hrow)) (at_of (j := 2) rfl rfl))) (st_of (tx3 _ _ hp'))) (by rw [List.length_map, paired_len hpr'])) ev_c) ea_nil)) (dH.mono e3) (by omega) (by omega) (by omega) (Ex.refl _) fun v H5 v0 v1 d5 e5 => ?_
    obtain ⟨n, rfl⟩ := Int.eq_ofNat_of_zero_le v0
    have x6 : ExD a l H' H5 := (ExD.of e3).trans e5
    have hD6 := x6 _ _ hDl' nf.1 nf.2.1
    refine ⟨_, hD6, sz_lt (by rw [List.length_map]; omega), ks ++ [n], by rw [List.length_append, hks]; rfl, (eH.trans x6).mut hDl, d5.upd nf, by rw [upd_same, List.map_append]; rfl, fun m n' r' h2 h3 => ?_⟩
    rcases snoc_at hks h2 with ⟨hm, h2⟩ | ⟨rfl, rfl⟩
    · exact hall m n' r' h2 h3
    · rw [hqr] at h3
      cases h3
      omega
  · obtain ⟨ks, hks, eH, dH, hDl', hall⟩ := p
    rw [hlen] at hks dH
    let ff : Str → Nat := fun z => ks.getD ((names qs).idxOf z) 0
    have hff : ∀ (m : Nat) r, qs[m]? = some r → ks[m]? = some (ff r.1) := fun m r h => by
      have hm := (List.getElem?_eq_some_iff.mp h).1
      obtain ⟨n, hn⟩ := get_of (l := ks) (i := m) hks hm
      show ks[m]? = some (ks.getD ((names qs).idxOf r.1) 0)
      rw [idx_at nd (show (names qs)[m]? = some r.1 by rw [List.getElem?_map, h]; rfl), getD_of hn, hn]
    have est : (ks.map fun n => V.int (n : Nat)) = stV qs ff := by
      apply List.ext_getElem?
      intro m
      unfold stV
      rw [List.getElem?_map, List.getElem?_map]
      cases hm : qs[m]? with
      | none =>
        have := List.getElem?_eq_none_iff.mp hm
        rw [List.getElem?_eq_none_iff.mpr (by omega)]
        rfl
      | some r =>
        rw [hff m r hm]
        rfl
    refine ⟨Dl, _, rfl, Or.inl ⟨sq_of hDl', fun d hd0 => ?_⟩⟩
    refine q d ff _ (fresh_back e1 (ExD.back eH dH hd0)) ((ExD.of e1).trans (eH.trans (ExD.of (Ex.new hd0)))) ((dH.upd (dH.fresh hd0)).up (by omega)) (fun r hr => ?_) (by show (L2.upd H2 d _) d = _; rw [upd_same, est])
    obtain ⟨m, hm⟩ := List.mem_iff_getElem?.mp hr
    exact hall m (ff r.1) r (hff m r hm) hm
/-- [part[0] for part in queues[1]] -/
theorem el_names {bb : Addr} {j : Nat} {qs : List (Row Str)} {ps : List Addr} (l40 : qs.length ≤ 40) (h : Ev tl σ H (.ref bb)) (hb : H bb = some (.tup (ps.map V.ref))) (hpr : Paired (RowH H) ps qs) (hj : j < σ.length) (hw : ∀ x, wipe ((wipe σ [j]).set j (some x)) [j] = wipe σ [j]) :
    EvL (tLc (iTup K tl) (gName j) tYes (tOp (rIxT K) (tVar j) (tC (.int 0))) [j]) σ H ((names qs).map V.str) := by
  have hlen : (ps.map V.ref).length = qs.length := by rw [List.length_map, paired_len hpr]
  have hget : ∀ x : V, ((wipe σ [j]).set j (some x))[j]? = some (some x) := fun x => by
    rw [List.getElem?_set_self]
    unfold wipe
    simp
    exact hj
  have wk := el_lcV (te := tOp (rIxT K) (tVar j) (tC (.int 0))) (tt := tYes) (g := gName j) (vs := [j]) (σ := σ) (H := H) (fun i => V.str (qs.getD i rowD).1) (fun _ => true) (ei_tup (K := K) (eq_ev h (st_of hb))) (by rw [hlen]; omega)
    fun i x H5 H6 e5 hi hy => by
      obtain ⟨rfl, hx⟩ := hy
      obtain ⟨p, r, rfl, _, hqr, q', hrow, _⟩ := RowsH.at hpr hx
      refine ⟨Ex.refl _, _, fun R h => h, hw _, et_yes, fun _ => ?_⟩
      rw [getD_of hqr]
      exact ev_op (ev_var (hget _)) ev_c (rv_ixT (st_of (e5 _ _ hrow)) (at_of (j := 0) rfl rfl))
  rw [hlen, idx_map rowD (fun r => V.str r.1) qs rfl] at wk
  rw [show (names qs).map V.str = qs.map fun r => V.str r.1 by rw [List.map_map]; rfl]
  exact wk
theorem q_when2 {b : Bool} {c : TT} (hc : EvT c σ H b) (M : L2.St → Hp → Prop) (k : ∀ σ' H', M σ' H' → tz D σ' H') (h1 : b = true → ∀ H1, Ex H H1 → (∀ σ' H', M σ' H' → tz D σ' H') → tu { D with nx := tz D } σ H1) (h2 : b = false → ∀ H1, Ex H H1 → M σ H1) : tSeq (tIfS c tu tNext) tz D σ H :=
  q_when hc (fun hb H1 e1 => h1 hb H1 e1 k) fun hb H1 e1 => k _ _ (h2 hb H1 e1)
/-- pick of a list of texts that stands -/
theorem do_pickLs {a l c nl : Addr} {N i : Nat} {ns : List Str} {E : XK} (h0 : σ[i]? = some (some (.ref a))) (h1 : Ev te σ H (.ref nl)) (hn : H nl = some (.lst (ns.map V.str))) (nf : nl ≠ a ∧ nl ≠ l) (dr : Dr a l c N H) (hN : N < 1000000) (hne : ns ≠ []) (hl : ns.length ≤ 1000) {Q : VK}
    (q : ∀ s H2, s ∈ ns → Dr a l c (N + 1) H2 → ExD a l H H2 → Q (.str s) H2) : tCall spPick [] E (tCons (tVar i) (tCons te tNil)) σ H Q :=
  ⟨.ref a, h0, h1 H (Ex.refl H) _ fun H1 e1 => ⟨a, l, c, N, .ref nl, ns.map V.str, rfl, dr.mono e1, hN, Or.inl ⟨nl, rfl, Or.inl (e1 _ _ hn), nf.1, nf.2⟩, by
    rw [List.length_map]
    exact List.length_pos_iff.mpr hne, by rw [List.length_map]; omega, fun x H2 hx d e => by
    obtain ⟨y, hy, rfl⟩ := List.mem_map.mp hx
    exact q y H2 hy d ((ExD.of e1).trans e)⟩⟩
/-- some shuffled, the first two -/
theorem do_shufTwo {a l c nl : Addr} {N i : Nat} {ns : List Str} {E : XK} (h0 : σ[i]? = some (some (.ref a))) (h1 : Ev te σ H (.ref nl)) (hn : H nl = some (.lst (ns.map V.str))) (nf : nl ≠ a ∧ nl ≠ l) (dr : Dr a l c N H) (hN : N + 1000 < 1000000) (hl : ns.length ≤ 20) (hok : ∀ z ∈ ns, PyData.strOk z = true) (h2 : 2 ≤ ns.length) (nd : ns.Nodup) {Q : VK}
    (q : ∀ p z1 z2 H2, H2 p = some (.lst [.str z1, .str z2]) → z1 ≠ z2 → z1 ∈ ns → z2 ∈ ns → Dr a l c (N + 20) H2 → ExD a l H H2 → Q (.ref p) H2) :
    tSl (rSlL K) (tCall spShuf [] E (tCons (tVar i) (tCons te tNil))) tNoPart (tPart (tC (.int 2))) σ H Q := by
  refine ⟨.ref a, h0, h1 H (Ex.refl H) _ fun H1 e1 => ?_⟩
  refine ⟨a, l, c, N, nl, ns, rfl, dr.mono e1, hN, ⟨Or.inl (e1 _ _ hn), nf.1, nf.2⟩, by omega, hok, fun q1 ys H2 hperm d2 e2 hq0 hq1 => ?_⟩
  refine ⟨2, rfl, ?_⟩
  refine ⟨q1, _, rfl, sq_of hq1, fun p hp => ?_⟩
  rw [show (2 : Int) = ((2 : Nat) : Int) from rfl, cut_front, ← List.map_take]
  have hly : ys.length = ns.length := hperm.length_eq
  have ndy := hperm.nodup_iff.mpr nd
  obtain ⟨z1, z2, r, rfl⟩ : ∃ z1 z2 r, ys = z1 :: z2 :: r := by
    match ys, hly with
    | [], h => exact absurd h (by show ¬ 0 = _; omega)
    | [_], h => exact absurd h (by show ¬ 1 = _; omega)
    | z1 :: z2 :: r, _ => exact ⟨z1, z2, r, rfl⟩
  have hne : z1 ≠ z2 := fun e => (List.nodup_cons.mp ndy).1 (by rw [e]; exact List.mem_cons_self)
  exact q p z1 z2 _ upd_same hne (hperm.mem_iff.mp List.mem_cons_self) (hperm.mem_iff.mp (List.mem_cons_of_mem _ List.mem_cons_self)) ((d2.upd (d2.fresh hp)).up (by omega)) ((ExD.of e1).trans (e2.trans (ExD.of (Ex.new hp))))
end
/-- two systems told otherwise, a house more in the second one -/
structure Kin (thr : Bool) (qs B : List (Row Str)) (h z : Str) (kk : (Str → Nat) → Nat) : Prop where
  gq : GoodQ qs
  gB : GoodQ B
  l20 : qs.length ≤ 20
  hm : ∃ r ∈ qs, r.1 = h
  back : ∀ R ∈ B, R.1 = z ∨ ∃ r ∈ qs, r.1 = R.1
  row : ∀ r ∈ qs, (thr = true ∨ r.1 ≠ h) → ∃ R ∈ B, R.1 = r.1 ∧ R.2.1 = r.2.1 ∧ KQ.outAll R = KQ.outAll r
  few : ∀ r ∈ qs, KQ.outAll r ≤ 58
  win : ∀ gl, KQ.Within qs gl → KQ.Within B (ext z (kk gl) gl)
  need : ∀ r ∈ qs, (thr = true ∨ r.1 ≠ h) → ∀ u gl, Reach B (setC (cashF B) r.1 u) (ext z (kk gl) gl) ↔ Reach qs (setC (cashF qs) r.1 u) gl
  needA : ∀ r ∈ qs, (thr = true ∨ r.1 ≠ h) → ∀ u, Reach B (setC (cashF B) r.1 u) (KQ.lenOf B) ↔ Reach qs (setC (cashF qs) r.1 u) (KQ.lenOf qs)
  both : ∀ r ∈ qs, ∀ q ∈ qs, (thr = true ∨ r.1 ≠ h) → (thr = true ∨ q.1 ≠ h) → r.1 ≠ q.1 → ∀ x y, Both B (cashF B) r.1 q.1 (KQ.lenOf B) x y ↔ Both qs (cashF qs) r.1 q.1 (KQ.lenOf qs) x y
end NQ
namespace NQ
open PySem PySem.Spec PyProof.Rows L2 Evl
open KQ (Row ext setC Reach Both LeastI Stair Need)
/-! ### pairs as data -/
def pairD (p : Int × Int) : PyData := .tuple [.int p.1, .int p.2]
theorem canLay_pairs : ∀ l : List (Int × Int), PyData.canLayAll0 (l.map pairD) = true
  | [] => by simp [PyData.canLayAll0]
  | n :: r => by
    rw [List.map_cons, PyData.canLayAll0, canLay_pairs r]
    simp [PyData.canLay0, PyData.canLayAll0, pairD]
theorem depth_pairs : ∀ l : List (Int × Int), PyData.depthAll (l.map pairD) ≤ 1
  | [] => by simp [PyData.depthAll]
  | n :: r => by
    rw [List.map_cons, PyData.depthAll]
    have := depth_pairs r
    have e : (pairD n).depth = 1 := by simp [pairD, PyData.depth, PyData.depthAll]
    omega
theorem shaped_pairs (l : List (Int × Int)) : SeqAt.shaped (.tuple (l.map pairD)) = true := by
  unfold SeqAt.shaped
  have h := depth_pairs l
  rw [PyData.canLay0, canLay_pairs, PyData.depth]
  rw [decide_eq_true (by omega)]
  rfl
theorem dp_steps {K : PySem.W.Frag} {H : Hp} {t : Addr} {l : List (Int × Int)} (h : StsH H t l) : Dp K H (.ref t) (.tuple (l.map pairD)) := by
  obtain ⟨ps, h1, h2⟩ := h
  refine .tup (st_of h1) ?_
  clear h1
  induction h2 with
  | nil => exact .nil
  | cons h _ ih => exact .cons (.tup (st_of h) (.cons (.int _) (.cons (.int _) .nil))) ih
theorem eqv_pairs (l : List (Int × Int)) : PyData.eqv (.tuple (l.map pairD)) (.tuple (l.map pairD)) = true := SeqAt.eqv_refl _ (by rw [PyData.canLay0]; exact canLay_pairs l)
section
variable {K : PySem.W.Frag} {σ : L2.St} {H H' : Hp} {ta tb tc te : TE} {tr : TA}
theorem ev_eqSts {P1 P2 : List (Int × Int) → Prop} (h1 : Gv ta σ H (fun v H2 => ∃ t l, v = .ref t ∧ P1 l ∧ StsH H2 t l)) (h2 : Gv tb σ H (fun v H2 => ∃ t l, v = .ref t ∧ P2 l ∧ StsH H2 t l)) (he : ∀ l m, P1 l → P2 m → l = m) : Ev (tOp (rEqD K) ta tb) σ H (.bl true) := fun H1 e Q q => by
  refine h1 H1 e _ fun v H2 e2 ⟨t, l, hv, p1, ht⟩ => h2 H2 (e.trans e2) _ fun w H3 e3 ⟨t2, m, hw, p2, ht2⟩ => ?_
  subst hv hw
  have := he l m p1 p2
  subst this
  refine ⟨_, _, dp_steps (ht.tx (TX.of e3)), dp_steps ht2, shaped_pairs _, shaped_pairs _, ?_⟩
  rw [eqv_pairs]
  exact q H3 (e2.trans e3)
theorem gv_stairs {a : Addr} {qs : List (Row Str)} {r q : Row Str} {z1 z2 : Str} (h1 : Ev ta σ H (.ref a)) (h2 : Ev tb σ H (.str z1)) (h3 : Ev tc σ H (.str z2)) (hq : QH H a qs) (G : GoodQ qs) (hr : r ∈ qs) (hq' : q ∈ qs) (n1 : r.1 = z1) (n2 : q.1 = z2) (hn : z1 ≠ z2) (hf : FewSteps qs r q) :
    Gv (tCall spStairs [] E0 (tCons ta (tCons tb (tCons tc tNil)))) σ H (fun v H2 => ∃ t l, v = .ref t ∧ Stair (Both qs (cashF qs) z1 z2 (KQ.lenOf qs)) l ∧ StsH H2 t l) := fun H1 e Q k => by
  subst n1 n2
  refine h1 H1 e _ fun H2 e2 => h2 H2 (e.trans e2) _ fun H3 e3 => h3 H3 ((e.trans e2).trans e3) _ fun H4 e4 => ?_
  have e14 := (e2.trans e3).trans e4
  exact ⟨a, qs, r, q, rfl, hq.tx (TX.of (e.trans e14)), G, hr, hq', hn, hf, fun t l H5 hl e5 ht => k _ H5 (e14.trans e5) ⟨t, l, rfl, hl, ht⟩⟩
theorem gv_lack {a : Addr} {qs : List (Row Str)} {r : Row Str} {z : Str} (h1 : Ev ta σ H (.ref a)) (h2 : Ev tb σ H (.str z)) (hq : QH H a qs) (G : GoodQ qs) (hr : r ∈ qs) (hn : r.1 = z) :
    Gv (tCall spLack [] E0 (tCons ta (tCons tb tNil))) σ H (fun v _ => ∃ o, v = optV o ∧ ∃ o', o = lackO r o' ∧ Need qs (cashF qs) z (KQ.lenOf qs) o') := fun H1 e Q k => by
  subst hn
  refine h1 H1 e _ fun H2 e2 => h2 H2 (e.trans e2) _ fun H3 e3 => ?_
  exact ⟨a, qs, r, rfl, hq.tx (TX.of (e.trans (e2.trans e3))), G, hr, fun v H5 hn e5 => k _ H5 ((e2.trans e3).trans e5) ⟨_, rfl, v, rfl, hn⟩⟩
theorem gv_needS {a p : Addr} {qs : List (Row Str)} {r : Row Str} {f : Str → Nat} {z : Str} (h1 : Ev ta σ H (.ref a)) (h2 : Ev tb σ H (.str z)) (h3 : Ev tc σ H (.ref p)) (hp : StH H p qs f) (hq : QH H a qs) (G : GoodQ qs) (hm : r ∈ qs) (hn : r.1 = z) (hw : KQ.Within qs f) :
    Gv (tCall spNeed [] E0 (tCons ta (tCons tb (tCons tc tNil)))) σ H (fun v _ => ∃ o, v = optV o ∧ KQ.Need qs (cashF qs) z f o) := by
  subst hn
  exact gv_need h1 h2 (fun H1 e Q q => h3 H1 e _ fun H2 e2 => q p H2 e2 ((e.trans e2) _ _ hp)) hq G hm hw
end
section
variable {K : PySem.W.Frag} {σ : L2.St} {H H' : Hp} {ta tb tc te : TE} {tr : TA}
theorem gv_withS {a a2 s : Addr} {qs B : List (Row Str)} {f : Str → Nat} {z : Str} {k : Nat} (h : EvA tr σ H [.ref a, .ref a2, .ref s, .str z, .int (k : Nat)]) (hq : QH H a qs) (hB : QH H a2 B) (nd : (names qs).Nodup) (l40 : qs.length ≤ 40) (lB : B.length ≤ 40) (hs : StH H s qs f) (hb : ∀ R ∈ B, R.1 = z ∨ ∃ r ∈ qs, r.1 = R.1) :
    Gv (tCall spWithS [] E0 tr) σ H (fun v H2 => ∃ p, v = .ref p ∧ StH H2 p B (ext z k f)) := fun H1 e Q q => by
  refine h H1 e _ fun H2 e2 => ?_
  rw [List.append_nil]
  exact ⟨a, a2, s, qs, B, f, z, k, rfl, hq.tx (TX.of (e.trans e2)), hB.tx (TX.of (e.trans e2)), nd, l40, lB, (e.trans e2) _ _ hs, hb, fun p H' e3 hp => q _ H' (e2.trans e3) ⟨p, rfl, hp⟩⟩
theorem ev_numOf {a s : Addr} {qs : List (Row Str)} {f : Str → Nat} {r : Row Str} (h : EvA tr σ H [.ref a, .ref s, .str r.1]) (hq : QH H a qs) (nd : (names qs).Nodup) (l40 : qs.length ≤ 40) (hs : StH H s qs f) (hr : r ∈ qs) : Ev (tCall spNumOf [] E0 tr) σ H (.int (f r.1 : Nat)) := fun H1 e Q q => by
  refine h H1 e _ fun H2 e2 => ?_
  rw [List.append_nil]
  exact ⟨a, s, qs, f, r, rfl, hq.tx (TX.of (e.trans e2)), nd, l40, (e.trans e2) _ _ hs, hr, fun H' e3 => q H' (e2.trans e3)⟩
end
/-- the law's own look at what houses need -/
def spNeedsR : Sp := fun vs H Q _ => ∃ (a l c : Addr) (N : Nat) (aq aB : Addr) (qs B : List (Row Str)) (h z : Str) (thr : Bool) (kk : (Str → Nat) → Nat), vs = [.ref a, .ref aq, .ref aB, .str h, .str z, .bl thr] ∧ Dr a l c N H ∧ N + 3000 < 1000000 ∧ QH H aq qs ∧ QH H aB B ∧ Kin thr qs B h z kk ∧
  (thr = true → kk = fun f => f h) ∧ (thr = false → kk = fun _ => 1) ∧ 2 ≤ qs.length ∧ ∀ H', Dr a l c (N + 200) H' → ExD a l H H' → Q (.bl true) H'
section
variable {P : Program} {w : World} {K : PySem.W.Frag} {mg : Str → Option Value} {base : Heap} {f : Addr} {fd : FuncData} {aK : Addr} {tk : Tk}
theorem ok__law_needs_right (F : Fun K "_law_needs_right" "_law_needs_right" s__law_needs_right f fd) (T : Tx K mg aK tk) (c__law_take : Cal P w K mg base CX0 2 "_law_take" ["draw", "many"] spTake) (c__law_pick : Cal P w K mg base CX0 3 "_law_pick" ["draw", "some"] spPick) (c__law_state_with : Cal P w K mg base CX0 2 "_law_state_with" ["queues", "other", "state", "fresh", "many"] spWithS)
    (c__law_number_of : Cal P w K mg base CX0 2 "_law_number_of" ["queues", "state", "house"] spNumOf) (c_needed_cash : Cal P w K mg base CX0 5 "needed_cash" ["queues", "house", "goal"] spNeed) (c_lack : Cal P w K mg base CX0 5 "lack" ["queues", "house"] spLack) (c__law_shuffled : Cal P w K mg base CX0 3 "_law_shuffled" ["draw", "some"] spShuf)
    (c_needed_stairs : Cal P w K mg base CX0 6 "needed_stairs" ["queues", "one", "other"] spStairs) : FnOk P w K mg base CX0 7 f fd ["draw", "queues", "other", "house", "fresh", "is_through"] spNeedsR := by
  refine F.ok sc__law_needs_right (fun vs H Q E h => ?_) (fun cdv A outer s H vs Q E hr h => ?_)
  · obtain ⟨a, l, c, N, aq, aB, qs, B, h, z, thr, kk, rfl, _⟩ := h
    rfl
  · obtain ⟨a, l, c, N, aq, aB, qs, B, h, z, thr, kk, rfl, dr, hN, hq, hB, X, hk1, hk2, h2, k⟩ := h
    have hu := hu_of hr
    refine ⟨_, (pss_cons (ps_setLc (i := 6) (own := [("part", 7)]) rfl sc__law_needs_right.nd rfl rfl (sw_true rfl rfl rfl (by decide +kernel)) (piTup (K := K) rfl (pe_ix (ixT (K := K) rfl) (pv 1) pe_int (fun _ _ => rfl))) (blkOk_by (own := [("part", 7)]) (N := N__law_needs_right) (sc := defScope s__law_needs_right) (by decide +kernel)) (fun _ _ _ _ _ => (pg_name (i := 7) sc__law_needs_right.nd rfl (Or.inl rfl))) (fun _ _ _ _ _ => pts_nil) (fun _ _ _ _ _ => (pe_ix (ixT (K := K) rfl) (pv 7) pe_int (fun _ _ => rfl))))
      (pss_cons (ps_par (i := 8) (j := 9) (by rfl) sc__law_needs_right.nd rfl rfl (by decide) rfl rfl (pa_cons (pe_callTy (crTup (K := K) rfl) (by rfl) T.tuple (by decide +kernel) (pa_cons (pe_lc (own := [("part", 7)]) rfl sc__law_needs_right.nd (piTup (K := K) rfl (pe_ix (ixT (K := K) rfl) (pv 1) pe_int (fun _ _ => rfl))) (blkOk_by (own := [("part", 7)]) (N := N__law_needs_right) (sc := defScope s__law_needs_right) (by decide +kernel)) (fun _ _ _ _ _ => (pg_name (i := 7) sc__law_needs_right.nd rfl (Or.inl rfl))) (fun _ _ _ _ _ => pts_nil) (fun _ _ _ _ _ => (pe_cl c__law_take hr (by decide) (by rfl) (pa_cons (pv 0) (pa_cons (pe_op op_add (pe_callB (crLen (K := K) rfl) (by rfl) T.len (by decide +kernel) (pa_cons (pe_ix (ixT (K := K) rfl) (pv 7) pe_int (fun _ _ => rfl)) pa_nil)) pe_int) pa_nil))))) pa_nil)) (pa_cons (pe_cl c__law_pick hr (by decide) (by rfl) (pa_cons (pv 0) (pa_cons (pv 6) pa_nil))) pa_nil)) (by rfl))
      (pss_cons (ps_set (i := 10) sc__law_needs_right.nd rfl (Or.inl rfl) (pe_cl c__law_state_with hr (by decide) (by rfl) (pa_cons (pv 1) (pa_cons (pv 2) (pa_cons (pv 8) (pa_cons (pv 4) (pa_cons (pe_ifExp (pt_val (pv 5)) (pe_cl c__law_number_of hr (by decide) (by rfl) (pa_cons (pv 1) (pa_cons (pv 8) (pa_cons (pv 3) pa_nil)))) pe_int) pa_nil)))))))
      (pss_cons (ps_if (PW.pt (pw_and (pt_not (pt_val (pv 5))) (pw_and1 (pt_cmpR op_eq (pv 9) (pv 3) (nomark _)))))
        (pss_one (ps_set (i := 9) sc__law_needs_right.nd rfl (Or.inl rfl) (pe_cl c__law_pick hr (by decide) (by rfl) (pa_cons (pv 0) (pa_cons (pe_lc (own := [("name", 11)]) rfl sc__law_needs_right.nd (piLst (K := K) rfl (pv 6)) (blkOk_by (own := [("name", 11)]) (N := N__law_needs_right) (sc := defScope s__law_needs_right) (by decide +kernel)) (fun _ _ _ _ _ => (pg_name (i := 11) sc__law_needs_right.nd rfl (Or.inl rfl))) (fun _ _ _ _ _ => pts_one (pt_cmpR op_ne (pv 11) (pv 3) (nomark _))) (fun _ _ _ _ _ => (pv 11))) pa_nil)))))
        pss_nil)
      (pss_cons (ps_if (PW.pt (pw_or (pt_cmpR op_ne (pe_cl c_needed_cash hr (by decide) (by rfl) (pa_cons (pv 2) (pa_cons (pv 9) (pa_cons (pv 10) pa_nil)))) (pe_cl c_needed_cash hr (by decide) (by rfl) (pa_cons (pv 1) (pa_cons (pv 9) (pa_cons (pv 8) pa_nil)))) (nomark _)) (pw_or1 (pt_cmpR op_ne (pe_cl c_lack hr (by decide) (by rfl) (pa_cons (pv 2) (pa_cons (pv 9) pa_nil))) (pe_cl c_lack hr (by decide) (by rfl) (pa_cons (pv 1) (pa_cons (pv 9) pa_nil))) (nomark _)))))
        (pss_one (ps_ret pe_bl))
        pss_nil)
      (pss_cons (ps_setLc (i := 12) (own := [("name", 11)]) rfl sc__law_needs_right.nd rfl rfl (sw_true rfl rfl rfl (by decide +kernel)) (piLst (K := K) rfl (pv 6)) (blkOk_by (own := [("name", 11)]) (N := N__law_needs_right) (sc := defScope s__law_needs_right) (by decide +kernel)) (fun _ _ _ _ _ => (pg_name (i := 11) sc__law_needs_right.nd rfl (Or.inl rfl))) (fun _ _ _ _ _ => pts_one (PW.pt (pw_or (pt_val (pv 5)) (pw_or1 (pt_cmpR op_ne (pv 11) (pv 3) (nomark _)))))) (fun _ _ _ _ _ => (pv 11)))
      (pss_cons (ps_if (pt_cmpR op_lt (pe_callB (crLen (K := K) rfl) (by rfl) T.len (by decide +kernel) (pa_cons (pv 12) pa_nil)) pe_int (nomark _))
        (pss_one (ps_ret pe_bl))
        pss_nil)
      (pss_cons (ps_asg (pe_slice (slL (K := K) rfl) (pe_cl c__law_shuffled hr (by decide) (by rfl) (pa_cons (pv 0) (pa_cons (pv 12) pa_nil))) po_none (po_some pe_int)) (pg_unl rfl (pgs_cons (pg_name (i := 13) sc__law_needs_right.nd rfl (Or.inl rfl)) (pgs_cons (pg_name (i := 14) sc__law_needs_right.nd rfl (Or.inl rfl)) pgs_nil))))
      (pss_one (ps_ret (pe_cmpR (opEqD (K := K) rfl hr.units) (pe_cl c_needed_stairs hr (by decide) (by rfl) (pa_cons (pv 2) (pa_cons (pv 13) (pa_cons (pv 14) pa_nil)))) (pe_cl c_needed_stairs hr (by decide) (by rfl) (pa_cons (pv 1) (pa_cons (pv 13) (pa_cons (pv 14) pa_nil)))) (nomark _)))))))))))), ?_⟩
    obtain ⟨b0, ha, ps, hb0, hpr⟩ := id hq
    have W := X.gq.well
    have nd := W.nd
    have l40 := W.l40
    refine q_asgL (σ := [some (.ref a), some (.ref aq), some (.ref aB), some (.str h), some (.str z), some (.bl thr), none, none, none, none, none, none, none, none, none]) (el_names (K := K) l40 (ev_houses (K := K) (ev_var (i := 1) rfl) ha) hb0 hpr (by show 7 < 15; decide) (fun _ => rfl)) fun nm H1 hnm0 e1 hnm => ?_
    have d1 := dr.mono e1
    have nfm := dr.fresh hnm0
    -- goal, start
    refine do_goal (K := K) (i := 0) (j := 7) (σ := [some (.ref a), some (.ref aq), some (.ref aB), some (.str h), some (.str z), some (.bl thr), some (.ref nm), none, none, none, none, none, none, none, none]) rfl (fun _ => rfl) W d1 (by omega) (ev_houses (K := K) (ev_var (i := 1) rfl) (e1 _ _ ha)) (e1 _ _ hb0) (L2.Paired.mapP hpr fun _ _ z => z.tx (TX.of e1)) (by show 7 < 15; decide) (fun _ => rfl) fun pg gl H2 hpg0 e2 d2 hgl hpg => ?_
    have hnm2 := e2 _ _ hnm nfm.1 nfm.2.1
    have hnames : names qs ≠ [] := fun z => by
      have := congrArg List.length z
      rw [List.length_map] at this
      have this : qs.length = 0 := this
      omega
    refine do_pickLs (i := 0) (σ := [some (.ref a), some (.ref aq), some (.ref aB), some (.str h), some (.str z), some (.bl thr), some (.ref nm), none, none, none, none, none, none, none, none]) rfl (ev_var (i := 6) rfl) hnm2 ⟨nfm.1, nfm.2.1⟩ d2 (by omega) hnames (by rw [List.length_map]; omega) fun st H3 hst d3 e3 => ?_
    have ngl := d1.fresh hpg0
    have x1 : ExD a l H H1 := ExD.of e1
    have x12 : ExD a l H H2 := x1.trans e2
    have x13 : ExD a l H H3 := x12.trans e3
    have hpg3 : StH H3 pg qs gl := e3 _ _ hpg ngl.1 ngl.2.1
    have hnm3 := e3 _ _ hnm2 nfm.1 nfm.2.1
    have hq3 : QH H3 aq qs := hq.tx (dr.tx x13)
    have hB3 : QH H3 aB B := hB.tx (dr.tx x13)
    refine ⟨.ref pg, .str st, rfl, ?_⟩
    -- far
    obtain ⟨rh, hrh, hrn⟩ := X.hm
    refine q_asgG (σ := [some (.ref a), some (.ref aq), some (.ref aB), some (.str h), some (.str z), some (.bl thr), some (.ref nm), none, some (.ref pg), some (.str st), none, none, none, none, none]) (gv_withS (k := kk gl) (ea_cons (ev_var (i := 1) rfl) (ea_cons (ev_var (i := 2) rfl) (ea_cons (ev_var (i := 8) rfl) (ea_cons (ev_var (i := 4) rfl) (ea_cons (ev_ifE (v := .int (kk gl : Nat)) (et_B (ev_var (i := 5) rfl)) (fun hb H4 e4 => ?_) fun hb H4 e4 => ?_) ea_nil))))) hq3 hB3 nd l40 X.gB.l40 hpg3 X.back) fun v H4 e4 ⟨fa, hv, hfa⟩ => ?_
    · rw [hk1 hb, ← hrn]
      exact ev_numOf (ea_cons (ev_var (i := 1) rfl) (ea_cons (ev_var (i := 8) rfl) (ea_cons (ev_is (ev_var (i := 3) rfl) (by rw [hrn])) ea_nil))) (hq3.tx (TX.of e4)) nd l40 (e4 _ _ hpg3) hrh
    · rw [hk2 hb]
      exact ev_c
    subst hv
    have d4 := d3.mono e4
    have x14 : ExD a l H H4 := x13.trans (ExD.of e4)
    have nfa : fa ≠ a ∧ fa ≠ l := by
      obtain ⟨kvs, lg, cs, rest, turn, g1, _, _, _, _, _, g2, _⟩ := d4.ex
      exact ⟨ne_of hfa g1 (by intro z; cases z), ne_of hfa g2 (by intro z; cases z)⟩
    have hgood : ∀ s ∈ names qs, PyData.strOk s = true := fun s hs => by
      obtain ⟨r, hr, rfl⟩ := mem_name hs
      exact W.ok r hr
    refine q_when2 (σ := [some (.ref a), some (.ref aq), some (.ref aB), some (.str h), some (.str z), some (.bl thr), some (.ref nm), none, some (.ref pg), some (.str st), some (.ref fa), none, none, none, none]) (b := !thr && decide (st = h)) (et_and (et_not (et_B (ev_var (i := 5) rfl))) fun _ => et_is (et_test (ev_eqV rfl (ev_var (i := 9) rfl) (ev_var (i := 3) rfl))) (decide_eq_decide.mpr (by rw [V.str.injEq])))
      (fun σ' H' => ∃ st' : Str, σ' = [some (.ref a), some (.ref aq), some (.ref aB), some (.str h), some (.str z), some (.bl thr), some (.ref nm), none, some (.ref pg), some (.str st'), some (.ref fa), none, none, none, none] ∧ st' ∈ names qs ∧ (thr = true ∨ st' ≠ h) ∧ Dr a l c (N + 42) H' ∧ ExD a l H4 H')
      (fun σ' H' hP => ?_) (fun hb H5 e5 kk2 => ?_) (fun hb H5 e5 => ⟨st, rfl, hst, ?_, (d4.mono e5).up (by omega), ExD.of e5⟩)
    · obtain ⟨st', rfl, hst', hor, d5, e5⟩ := hP
      obtain ⟨r, hr', hrs⟩ := mem_name hst'
      have hor' : thr = true ∨ r.1 ≠ h := by rw [hrs]; exact hor
      obtain ⟨R, hR, hRn, hRc, hRo⟩ := X.row r hr' hor'
      have x5 : ExD a l H H' := x14.trans e5
      have hq5 := hq.tx (dr.tx x5)
      have hB5 := hB.tx (dr.tx x5)
      have hpg5 : StH H' pg qs gl := e5 _ _ (e4 _ _ hpg3) ngl.1 ngl.2.1
      have hfa5 : StH H' fa B (ext z (kk gl) gl) := e5 _ _ hfa nfa.1 nfa.2
      have hnm5 := e5 _ _ (e4 _ _ hnm3) nfm.1 nfm.2.1
      refine q_when (σ := [some (.ref a), some (.ref aq), some (.ref aB), some (.str h), some (.str z), some (.bl thr), some (.ref nm), none, some (.ref pg), some (.str st'), some (.ref fa), none, none, none, none]) (b := false) (et_is (et_or (et_test (ev_neNeed (gv_needS (ev_var (i := 2) rfl) (ev_var (i := 9) rfl) (ev_var (i := 10) rfl) hfa5 hB5 X.gB hR (hRn.trans hrs) (X.win gl hgl)) (gv_needS (ev_var (i := 1) rfl) (ev_var (i := 9) rfl) (ev_var (i := 8) rfl) hpg5 hq5 X.gq hr' hrs hgl) fun v w p1 p2 => KQ.need_eq (fun u _ => by rw [← hrs]; exact X.need r hr' hor' u gl) p1 p2)) fun _ =>
        et_test (ev_neNeed (gv_lack (ev_var (i := 2) rfl) (ev_var (i := 9) rfl) hB5 X.gB hR (hRn.trans hrs)) (gv_lack (ev_var (i := 1) rfl) (ev_var (i := 9) rfl) hq5 X.gq hr' hrs) fun v w ⟨v', hv', p1⟩ ⟨w', hw', p2⟩ => by
          rw [hv', hw', KQ.need_eq (fun u _ => by rw [← hrs]; exact X.needA r hr' hor' u) p1 p2]
          unfold lackO
          rw [hRc])) rfl) (fun z => by cases z) (fun _ H6 e6 => ?_)
      have x6 : ExD a l H H6 := x5.trans (ExD.of e6)
      refine q_asgL (σ := [some (.ref a), some (.ref aq), some (.ref aB), some (.str h), some (.str z), some (.bl thr), some (.ref nm), none, some (.ref pg), some (.str st'), some (.ref fa), none, none, none, none]) (el_some (K := K) (i := 3) (j := 11) (k := 5) (house := h) (b := thr) (ev_var (i := 6) rfl) (sq_of (e6 _ _ hnm5)) (by rw [List.length_map]; omega) (by show 11 < 15; decide) rfl rfl (fun _ => rfl) (fun _ => rfl) (fun _ => rfl)) fun sm H7 hsm0 e7 hsm => ?_
      have e67 := e6.trans e7
      have d7 := d5.mono e67
      have nfs := (d5.mono e6).fresh hsm0
      have x7 : ExD a l H H7 := x6.trans (ExD.of e7)
      refine q_when (σ := [some (.ref a), some (.ref aq), some (.ref aB), some (.str h), some (.str z), some (.bl thr), some (.ref nm), none, some (.ref pg), some (.str st'), some (.ref fa), none, some (.ref sm), none, none]) (b := decide (((names qs).filter fun z => thr || !decide (z = h)).length < 2)) (et_is (et_test (ev_ltV (j := 2) (ev_lenL (K := K) (ev_var (i := 12) rfl) (sq_of hsm)) ev_c)) (by rw [List.length_map]; exact decide_eq_decide.mpr (by omega))) (fun _ H8 e8 => ?_) (fun hb H8 e8 => ?_)
      · exact s_ret ev_c fun H9 e9 => k H9 ((d7.mono (e8.trans e9)).up (by omega)) (x7.trans (ExD.of (e8.trans e9)))
      · have h2l : 2 ≤ ((names qs).filter fun z => thr || !decide (z = h)).length := by
          have := of_decide_eq_false hb
          omega
        refine do_shufTwo (K := K) (i := 0) (ns := (names qs).filter fun z => thr || !decide (z = h)) (σ := [some (.ref a), some (.ref aq), some (.ref aB), some (.str h), some (.str z), some (.bl thr), some (.ref nm), none, some (.ref pg), some (.str st'), some (.ref fa), none, some (.ref sm), none, none]) rfl (ev_var (i := 12) rfl) (e8 _ _ hsm) ⟨nfs.1, nfs.2.1⟩ (d7.mono e8) (by omega) (by
            have := List.length_filter_le (fun z => thr || !decide (z = h)) (names qs)
            have l20 := X.l20
            rw [List.length_map] at this
            omega) (fun z hz => hgood z (List.mem_filter.mp hz).1) h2l (nd.sublist List.filter_sublist) fun p z1 z2 H9 hp hne hz1 hz2 d9 e9 => ?_
        have x9 : ExD a l H H9 := (x7.trans (ExD.of e8)).trans e9
        refine ⟨p, [.str z1, .str z2], rfl, sq_of hp, rfl, .str z1, [.str z2], rfl, .str z2, [], rfl, rfl, ?_⟩
        obtain ⟨m1, f1⟩ := List.mem_filter.mp hz1
        obtain ⟨m2, f2⟩ := List.mem_filter.mp hz2
        obtain ⟨r1, hr1, rfl⟩ := mem_name m1
        obtain ⟨r2, hr2, rfl⟩ := mem_name m2
        have o1 : thr = true ∨ r1.1 ≠ h := by
          rcases Bool.or_eq_true_iff.mp f1 with q | q
          · exact Or.inl q
          · exact Or.inr (of_decide_eq_false (by simpa using q))
        have o2 : thr = true ∨ r2.1 ≠ h := by
          rcases Bool.or_eq_true_iff.mp f2 with q | q
          · exact Or.inl q
          · exact Or.inr (of_decide_eq_false (by simpa using q))
        obtain ⟨R1, hR1, hR1n, _, _⟩ := X.row r1 hr1 o1
        obtain ⟨R2, hR2, hR2n, _, hR2o⟩ := X.row r2 hr2 o2
        have few2 := X.few r2 hr2
        refine s_ret (v := .bl true) (σ := [some (.ref a), some (.ref aq), some (.ref aB), some (.str h), some (.str z), some (.bl thr), some (.ref nm), none, some (.ref pg), some (.str st'), some (.ref fa), none, some (.ref sm), some (.str r1.1), some (.str r2.1)]) (ev_eqSts (K := K) (gv_stairs (ev_var (i := 2) rfl) (ev_var (i := 13) rfl) (ev_var (i := 14) rfl) (hB.tx (dr.tx x9)) X.gB hR1 hR2 hR1n hR2n hne ⟨1, Int.le_refl 1, by rw [hR2o]; omega, fun x y _ _ hxy => by rw [Int.ediv_one, Int.mul_one]; exact hxy⟩) (gv_stairs (ev_var (i := 1) rfl) (ev_var (i := 13) rfl) (ev_var (i := 14) rfl) (hq.tx (dr.tx x9)) X.gq hr1 hr2 rfl rfl hne ⟨1, Int.le_refl 1, by omega, fun x y _ _ hxy => by rw [Int.ediv_one, Int.mul_one]; exact hxy⟩) fun l m p1 p2 => (KQ.stair_eq (fun x y _ _ => (X.both r1 hr1 r2 hr2 o1 o2 hne x y).symm) p1 p2).symm) fun H10 e10 => k H10 ((d9.mono e10).up (by omega)) (x9.trans (ExD.of e10))
    · have hb2 : thr = false ∧ st = h := by
        rw [Bool.and_eq_true, Bool.not_eq_true'] at hb
        exact ⟨hb.1, of_decide_eq_true hb.2⟩
      have hnm5 := e5 _ _ (e4 _ _ hnm3)
      have hne : ((names qs).filter fun z => !decide (z = h)) ≠ [] := fun z => by
        have hall : ∀ y ∈ names qs, y = h := fun y hy => by
          by_cases e : y = h
          · exact e
          · have : y ∈ (names qs).filter fun z => !decide (z = h) := List.mem_filter.mpr ⟨hy, by rw [decide_eq_false e]; rfl⟩
            rw [z] at this
            cases this
        match hn : names qs, nd with
        | [], _ => exact hnames hn
        | [x], _ =>
          have := congrArg List.length hn
          rw [List.length_map] at this
          have this : qs.length = 1 := this
          omega
        | x :: y :: t, nd2 =>
          have ex := hall x (by rw [hn]; exact List.mem_cons_self)
          have ey := hall y (by rw [hn]; exact List.mem_cons_of_mem _ List.mem_cons_self)
          exact (List.nodup_cons.mp nd2).1 (by rw [ex, ← ey]; exact List.mem_cons_self)
      have hpos : 0 < (((names qs).filter fun z => !decide (z = h)).map V.str).length := by
        rw [List.length_map]
        exact List.length_pos_iff.mpr hne
      refine do_pickL' (i := 0) (N := N + 41) (σ := [some (.ref a), some (.ref aq), some (.ref aB), some (.str h), some (.str z), some (.bl thr), some (.ref nm), none, some (.ref pg), some (.str st), some (.ref fa), none, none, none, none]) rfl (el_others (K := K) (i := 3) (j := 11) (house := h) (ev_var (i := 6) rfl) (sq_of hnm5) (by rw [List.length_map]; omega) (by show 11 < 15; decide) (by decide) rfl (fun _ => rfl) (fun _ => rfl)) ((d4.mono e5).up (by omega)) (by omega) hpos (by
          rw [List.length_map]
          have := List.length_filter_le (fun z => !decide (z = h)) (names qs)
          rw [List.length_map] at this
          omega) fun x H6 hx d6 e6 => ?_
      obtain ⟨y, hy, rfl⟩ := List.mem_map.mp hx
      obtain ⟨hy1, hy2⟩ := List.mem_filter.mp hy
      exact kk2 _ _ ⟨y, rfl, hy1, Or.inr (of_decide_eq_false (by simpa using hy2)), d6.up (by omega), (ExD.of e5).trans e6⟩
    · by_cases e : thr = true
      · exact Or.inl e
      · refine Or.inr fun z => ?_
        rw [z] at hb
        cases thr
        · rw [decide_eq_true rfl] at hb
          cases hb
        · exact e rfl
end
end NQ
namespace NQ
open PySem PySem.Spec PyProof.Rows L2 Evl
open KQ (Row ext setC Reach Both Thru Told Cash toF mc)
/-- drawn queues, a house of them, a name that is new -/
structure LapG (qs : List (Row Str)) (r0 : Row Str) (z : Str) : Prop where
  gq : GoodQ qs
  l20 : qs.length ≤ 20
  l2 : 2 ≤ qs.length
  sm : ∀ r ∈ qs, r.2.2.length ≤ 4 ∧ r.2.1 ≤ 6 ∧ ∀ x ∈ r.2.2, x.2 ≤ 4
  r0m : r0 ∈ qs
  gz : GoodN z ∧ PyData.strOk z = true
  nz : z ∉ names qs
theorem GoodP.mono {h : Str} {ns ns' : List Str} {xs : List (Str × Int)} (p : GoodP h ns xs) (e : ∀ y ∈ ns, y ∈ ns') : GoodP h ns' xs := ⟨p.len, p.ne, fun x hx => e _ (p.mem x hx), p.lo, p.hi⟩
theorem sum_four : ∀ {l : List Int}, (∀ x ∈ l, x ≤ 4) → l.sum ≤ 4 * l.length
  | [], _ => by decide
  | x :: l, h => by
    have h1 := h x List.mem_cons_self
    have h2 := sum_four fun y hy => h y (List.mem_cons_of_mem _ hy)
    rw [List.sum_cons, List.length_cons]
    omega
section
variable {qs B rest : List (Row Str)} {r0 : Row Str} {z : Str}
theorem LapG.few (L : LapG qs r0 z) : ∀ r ∈ qs, KQ.outAll r ≤ 58 := fun r hr => by
  obtain ⟨h1, _, h3⟩ := L.sm r hr
  rw [out_sum]
  have := sum_four (l := r.2.2.map fun x => x.2) fun y hy => by
    obtain ⟨x, hx, rfl⟩ := List.mem_map.mp hy
    exact h3 x hx
  rw [List.length_map] at this
  omega
theorem LapG.fr (L : LapG qs r0 z) : ∀ r ∈ qs, r.1 ≠ z := fun r hr e => L.nz (List.mem_map.mpr ⟨r, hr, e⟩)
theorem LapG.inn (L : LapG qs r0 z) : ∀ r ∈ qs, ∀ x ∈ r.2.2, x.1 ≠ z := fun r hr x hx e => L.nz (by rw [← e]; exact (L.gq.pay r hr).mem x hx)
theorem perm_ndB (asc : AscS (names B)) : (names B).Nodup := asc_nodup asc
/-- the house pays through the new one -/
theorem LapG.thru (L : LapG qs r0 z) (hB : B.Perm (thruR r0.1 z qs)) : ∃ rest, Thru qs B rest r0 z 0 r0.2.1 := by
  obtain ⟨rest, p1, p2⟩ := thru_perm (z := z) L.gq.well.nd L.r0m rfl
  exact ⟨rest, p1, hB.trans p2, L.gq.well.good, L.fr, L.inn⟩
theorem LapG.thruNd (L : LapG qs r0 z) : (names (thruR r0.1 z qs)).Nodup := by
  obtain ⟨rest, T⟩ := L.thru (List.Perm.refl _)
  exact T.good.nd
theorem LapG.thruGood (L : LapG qs r0 z) (T : Thru qs B rest r0 z 0 r0.2.1) (asc : AscS (names B)) : GoodQ B := by
  have hl1 : qs.length = rest.length + 1 := T.pq.length_eq
  have hl2 : B.length = rest.length + 2 := T.pB.length_eq
  have l20 := L.l20
  have zB : z ∈ names B := List.mem_map.mpr ⟨_, T.memB.mpr (Or.inl rfl), rfl⟩
  have nB : ∀ y ∈ names qs, y ∈ names B := fun y hy => by
    obtain ⟨r, hr, rfl⟩ := mem_name hy
    rcases T.memQ.mp hr with rfl | h
    · exact List.mem_map.mpr ⟨_, T.memB.mpr (Or.inr (Or.inl rfl)), rfl⟩
    · exact List.mem_map.mpr ⟨_, T.memB.mpr (Or.inr (Or.inr h)), rfl⟩
  have g := L.gq
  refine ⟨by omega, by omega, asc, fun R hR => ?_, fun R hR => ?_, fun R hR => ?_, fun R hR => ?_⟩
  · rcases T.memB.mp hR with rfl | rfl | h
    · exact L.gz.1
    · exact g.nm r0 L.r0m
    · exact g.nm R (T.rm h)
  · rcases T.memB.mp hR with rfl | rfl | h
    · exact Int.le_refl 0
    · exact g.c0 r0 L.r0m
    · exact g.c0 R (T.rm h)
  · rcases T.memB.mp hR with rfl | rfl | h
    · show (0 : Int) ≤ 1000000
      decide
    · exact g.cM r0 L.r0m
    · exact g.cM R (T.rm h)
  · rcases T.memB.mp hR with rfl | rfl | h
    · have p := (g.pay r0 L.r0m).mono nB
      exact ⟨p.len, fun x hx => L.inn r0 L.r0m x hx, p.mem, p.lo, p.hi⟩
    · have p := g.pay r0 L.r0m
      refine ⟨?_, fun x hx => ?_, fun x hx => ?_, fun x hx => ?_, fun x hx => ?_⟩
      · show (toF z r0.2.2).length ≤ 60
        unfold KQ.toF
        rw [List.length_map]
        exact p.len
      all_goals
        obtain ⟨y, hy, rfl⟩ := List.mem_map.mp hx
      · exact fun e => L.fr r0 L.r0m e.symm
      · exact zB
      · exact p.lo y hy
      · exact p.hi y hy
    · exact (g.pay R (T.rm h)).mono nB
theorem thru_cash0 (T : Thru qs B rest r0 z 0 r0.2.1) : cashF B z = 0 := cashF_at T.good.nd (T.memB.mpr (Or.inl rfl))
theorem thru_cashE (T : Thru qs B rest r0 z 0 r0.2.1) {r : Row Str} (hr : r ∈ qs) : cashF B r.1 = cashF qs r.1 := by
  rw [cashF_at T.G.nd hr]
  rcases T.memQ.mp hr with rfl | h
  · exact cashF_at T.good.nd (r := (r.1, r.2.1, toF z r.2.2)) (T.memB.mpr (Or.inr (Or.inl rfl)))
  · exact cashF_at T.good.nd (T.memB.mpr (Or.inr (Or.inr h)))
theorem thru_len (T : Thru qs B rest r0 z 0 r0.2.1) : ∀ R ∈ B, KQ.lenOf B R.1 = ext z (KQ.lenOf qs r0.1) (KQ.lenOf qs) R.1 := fun R hR => by
  rw [KQ.lenOf_at T.good.nd hR]
  rcases T.memB.mp hR with rfl | rfl | h
  · show r0.2.2.length = ext z _ _ z
    rw [KQ.ext_F, KQ.lenOf_at T.G.nd T.r0m]
  · show (toF z r0.2.2).length = ext z _ _ r0.1
    rw [KQ.ext_ne (T.fr r0 T.r0m), KQ.lenOf_at T.G.nd T.r0m]
    unfold KQ.toF
    rw [List.length_map]
  · rw [KQ.ext_ne (T.fr R (T.rm h)), KQ.lenOf_at T.G.nd (T.rm h)]
theorem thru_reachA (T : Thru qs B rest r0 z 0 r0.2.1) {c d : Str → Int} (cF : c z = 0) (h : ∀ r ∈ qs, c r.1 = d r.1) : Reach B c (KQ.lenOf B) ↔ Reach qs d (KQ.lenOf qs) :=
  (KQ.reach_same (fun _ _ => rfl) (thru_len T)).trans ((T.reach cF).trans (KQ.reach_same h fun _ _ => rfl))
theorem LapG.thruKin (L : LapG qs r0 z) (T : Thru qs B rest r0 z 0 r0.2.1) (asc : AscS (names B)) : Kin true qs B r0.1 z (fun f => f r0.1) := by
  have sc : ∀ {r s : Row Str} {u : Int}, s ∈ qs → setC (cashF B) r.1 u s.1 = setC (cashF qs) r.1 u s.1 := fun {r s u} hs => by
    unfold KQ.setC
    rw [thru_cashE T hs]
  have s0 : ∀ {r : Row Str} {u : Int}, r ∈ qs → setC (cashF B) r.1 u z = 0 := fun {r u} hr => by
    rw [KQ.setC_ne fun e => T.fr r hr e.symm]
    exact thru_cash0 T
  refine ⟨L.gq, L.thruGood T asc, L.l20, ⟨r0, L.r0m, rfl⟩, fun R hR => ?_, fun r hr _ => ?_, L.few, fun gl w => T.extW w, fun r hr _ u gl => ?_, fun r hr _ u => thru_reachA T (s0 hr) fun s hs => sc hs, fun r hr q hq _ _ hn x y => ?_⟩
  · rcases T.memB.mp hR with rfl | rfl | h
    · exact Or.inl rfl
    · exact Or.inr ⟨r0, L.r0m, rfl⟩
    · exact Or.inr ⟨R, T.rm h, rfl⟩
  · rcases T.memQ.mp hr with rfl | h
    · refine ⟨_, T.memB.mpr (Or.inr (Or.inl rfl)), rfl, rfl, ?_⟩
      unfold KQ.outAll
      show KQ.outS (toF z r.2.2) (toF z r.2.2).length = _
      rw [KQ.toF_out]
      unfold KQ.toF
      rw [List.length_map]
    · exact ⟨r, T.memB.mpr (Or.inr (Or.inr h)), rfl, rfl, rfl⟩
  · exact (T.reach (s0 hr)).trans (KQ.reach_same (fun s hs => sc hs) fun _ _ => rfl)
  · refine thru_reachA T ?_ fun s hs => ?_
    · rw [KQ.setC_ne fun e => T.fr r hr e.symm]
      exact s0 hq
    · unfold KQ.setC
      rw [thru_cashE T hs]
/-! ### cash told as a payment -/
def noCash (h : Str) (r : Row Str) : Int := if r.1 = h then 0 else r.2.1
theorem LapG.told (L : LapG qs r0 z) (v1 : 1 ≤ r0.2.1) (hB : B.Perm (mc (noCash r0.1) qs ++ [(z, r0.2.1, [(r0.1, r0.2.1)])])) : Told qs B (noCash r0.1) r0 z r0.2.1 r0.2.1 :=
  ⟨hB.trans (List.perm_append_comm), L.gq.well.good, L.r0m, v1, L.fr, L.inn⟩
theorem LapG.toldNd (L : LapG qs r0 z) (v1 : 1 ≤ r0.2.1) : (names (mc (noCash r0.1) qs ++ [(z, r0.2.1, [(r0.1, r0.2.1)])])).Nodup := (L.told v1 (List.Perm.refl _)).good.nd
theorem LapG.toldGood (L : LapG qs r0 z) (T : Told qs B (noCash r0.1) r0 z r0.2.1 r0.2.1) (asc : AscS (names B)) : GoodQ B := by
  have hl : B.length = qs.length + 1 := by
    rw [T.pB.length_eq, List.length_cons]
    unfold KQ.mc
    rw [List.length_map]
  have l20 := L.l20
  have nB : ∀ y ∈ names qs, y ∈ names B := fun y hy => by
    obtain ⟨r, hr, rfl⟩ := mem_name hy
    exact List.mem_map.mpr ⟨_, T.memB.mpr (Or.inr ⟨r, hr, rfl⟩), rfl⟩
  have g := L.gq
  have c6 := (L.sm r0 L.r0m).2.1
  refine ⟨by omega, by omega, asc, fun R hR => ?_, fun R hR => ?_, fun R hR => ?_, fun R hR => ?_⟩
  · rcases T.memB.mp hR with rfl | ⟨q, hq, rfl⟩
    · exact L.gz.1
    · exact g.nm q hq
  · rcases T.memB.mp hR with rfl | ⟨q, hq, rfl⟩
    · exact g.c0 r0 L.r0m
    · show 0 ≤ noCash r0.1 q
      unfold noCash
      split
      · exact Int.le_refl 0
      · exact g.c0 q hq
  · rcases T.memB.mp hR with rfl | ⟨q, hq, rfl⟩
    · exact g.cM r0 L.r0m
    · show noCash r0.1 q ≤ 1000000
      unfold noCash
      split
      · decide
      · exact g.cM q hq
  · rcases T.memB.mp hR with rfl | ⟨q, hq, rfl⟩
    · refine ⟨by show 1 ≤ 60; omega, fun x hx => ?_, fun x hx => ?_, fun x hx => ?_, fun x hx => ?_⟩
      all_goals rw [List.mem_singleton.mp hx]
      · exact L.fr r0 L.r0m
      · exact nB _ (List.mem_map.mpr ⟨r0, L.r0m, rfl⟩)
      · exact T.v1
      · show r0.2.1 ≤ 1000000
        omega
    · exact (g.pay q hq).mono nB
theorem Told.cash (T : Told qs B (noCash r0.1) r0 z r0.2.1 r0.2.1) : Cash qs r0 z r0.2.1 (cashF qs) (cashF B) := by
  have at' : ∀ {q : Row Str}, q ∈ qs → cashF B q.1 = noCash r0.1 q := fun {q} hq => cashF_at T.good.nd (r := (q.1, noCash r0.1 q, q.2.2)) (T.memB.mpr (Or.inr ⟨q, hq, rfl⟩))
  refine ⟨cashF_at T.good.nd (r := (z, r0.2.1, [(r0.1, r0.2.1)])) (T.memB.mpr (Or.inl rfl)), ?_, fun r hr hn => ?_⟩
  · rw [at' T.r0m, cashF_at T.G.nd T.r0m]
    unfold noCash
    rw [if_pos rfl]
    omega
  · rw [at' hr, cashF_at T.G.nd hr]
    unfold noCash
    rw [if_neg hn]
theorem Cash.set {c d : Str → Int} {v : Int} (T : Told qs B (noCash r0.1) r0 z r0.2.1 r0.2.1) (C : Cash qs r0 z v c d) {r : Row Str} (hr : r ∈ qs) (hn : r.1 ≠ r0.1) (u : Int) : Cash qs r0 z v (setC c r.1 u) (setC d r.1 u) := by
  refine ⟨?_, ?_, fun s hs hs0 => ?_⟩
  · rw [KQ.setC_ne fun e => T.fr r hr e.symm]
    exact C.cF
  · rw [KQ.setC_ne hn.symm, KQ.setC_ne hn.symm]
    exact C.cH
  · unfold KQ.setC
    rw [C.cO s hs hs0]
theorem Told.len (T : Told qs B (noCash r0.1) r0 z r0.2.1 r0.2.1) : ∀ R ∈ B, KQ.lenOf B R.1 = ext z 1 (KQ.lenOf qs) R.1 := fun R hR => by
  rw [KQ.lenOf_at T.good.nd hR]
  rcases T.memB.mp hR with rfl | ⟨q, hq, rfl⟩
  · show 1 = ext z _ _ z
    rw [KQ.ext_F]
  · show q.2.2.length = ext z _ _ q.1
    rw [KQ.ext_ne (T.fr q hq), KQ.lenOf_at T.G.nd hq]
theorem LapG.toldKin (L : LapG qs r0 z) (T : Told qs B (noCash r0.1) r0 z r0.2.1 r0.2.1) (asc : AscS (names B)) : Kin false qs B r0.1 z (fun _ => 1) := by
  have C := Told.cash T
  have ne : ∀ {r : Row Str}, (false = true ∨ r.1 ≠ r0.1) → r.1 ≠ r0.1 := fun h => h.elim (fun z => by cases z) id
  refine ⟨L.gq, L.toldGood T asc, L.l20, ⟨r0, L.r0m, rfl⟩, fun R hR => ?_, fun r hr ho => ?_, L.few, fun gl w => T.extW w, fun r hr ho u gl => ?_, fun r hr ho u => ?_, fun r hr q hq ho1 ho2 hn x y => ?_⟩
  · rcases T.memB.mp hR with rfl | ⟨q, hq, rfl⟩
    · exact Or.inl rfl
    · exact Or.inr ⟨q, hq, rfl⟩
  · exact ⟨_, T.memB.mpr (Or.inr ⟨r, hr, rfl⟩), rfl, if_neg (ne ho), rfl⟩
  · exact T.reach (Cash.set T C hr (ne ho) u)
  · exact (KQ.reach_same (fun _ _ => rfl) (Told.len T)).trans (T.reach (Cash.set T C hr (ne ho) u))
  · exact (KQ.reach_same (fun _ _ => rfl) (Told.len T)).trans (T.reach (Cash.set T (Cash.set T C hq (ne ho2) y) hr (ne ho1) x))
end
end NQ
namespace NQ
open PySem PySem.Spec PyProof.Rows L2 Evl
open KQ (Row ext setC Reach Both Thru Told Cash toF mc Opt goOn)
def SWork (ff fg : Addr) (x : Addr) : Option Sp := if x = ff then some spFin else if x = fg then some spGre else none
theorem opCatT {X : Cx} {K : PySem.W.Frag} (e : X.K = K) : OpR X (binaryOp .Add) (rCatT K) := by
  subst e
  exact op_catT
section
variable {K : PySem.W.Frag} {σ : L2.St} {H H' : Hp} {ta tb tc te tl td ty : TE} {t u : TT} {x y z v : V} {tr : TA} {D : Ends} {tz tb' : TS} {g : TG}
theorem q_forRaw (h : tl σ H fun v H1 => tSeq (tFor (iList K (tC v)) g tb') tz D σ H1) : tSeq (tFor (iList K tl) g tb') tz D σ H := h
theorem q_forRawT (h : tl σ H fun v H1 => tSeq (tFor (iTup K (tC v)) g tb') tz D σ H1) : tSeq (tFor (iTup K tl) g tb') tz D σ H := h
theorem gv_thru {a : Addr} {qs : List (Row Str)} {h z : Str} (ha : EvA tr σ H [.ref a, .str h, .str z]) (hq : QH H a qs) (l40 : qs.length ≤ 40) (l60 : ∀ r ∈ qs, r.2.2.length ≤ 60) (nd : (names (thruR h z qs)).Nodup) : Gv (tCall spThru [] E0 tr) σ H (fun v H2 => ∃ p B, v = .ref p ∧ B.Perm (thruR h z qs) ∧ AscS (names B) ∧ QH H2 p B) := fun H1 e Q q => by
  refine ha H1 e _ fun H2 e2 => ?_
  rw [List.append_nil]
  exact ⟨a, qs, h, z, rfl, hq.tx (TX.of (e.trans e2)), l40, l60, nd, fun p B H' e3 hB asc hq' => q _ H' (e2.trans e3) ⟨p, B, rfl, hB, asc, hq'⟩⟩
theorem ev_notTrue (h : Ev te σ H (.bl true)) : Ev (tOp rNotB te (tC (.bl true))) σ H (.bl false) := fun H1 e Q q => h H1 e _ fun H2 e2 => ⟨true, true, rfl, rfl, q H2 e2⟩
theorem el_ifL {b : Bool} {xs : List V} (hc : EvT t σ H b) (h1 : b = true → ∀ H1, Ex H H1 → EvL ta σ H1 xs) (h2 : b = false → ∀ H1, Ex H H1 → EvL tb σ H1 xs) : EvL (tIf t ta tb) σ H xs := fun H1 e Q q => by
  refine hc H1 e _ fun H2 e2 => ?_
  cases b with
  | true =>
    rw [if_pos rfl]
    exact h1 rfl H2 (e.trans e2) H2 (Ex.refl _) _ fun p H3 hp e3 hp3 => q p H3 (fresh_back e2 hp) (e2.trans e3) hp3
  | false =>
    rw [if_neg Bool.false_ne_true]
    exact h2 rfl H2 (e.trans e2) H2 (Ex.refl _) _ fun p H3 hp e3 hp3 => q p H3 (fresh_back e2 hp) (e2.trans e3) hp3
theorem el_catN {a : Addr} {xs ys : List V} (ha : Ev ta σ H (.ref a)) (hx : H a = some (.lst xs)) (hb : EvL tb σ H ys) (hl : xs.length + ys.length ≤ 100000) : EvL (tOp rCat ta tb) σ H (xs ++ ys) := fun H1 e Q q => by
  refine ha H1 e _ fun H2 e2 => hb H2 (e.trans e2) _ fun p H3 hp e3 hp3 => ?_
  exact ⟨a, p, xs, ys, rfl, rfl, ((e.trans e2).trans e3) _ _ hx, hp3, sz_of hl, fun l hl => q l _ (fresh_back (e2.trans e3) hl) ((e2.trans e3).trans (Ex.new hl)) upd_same⟩
/-- work(queues), with what it hands back -/
theorem gv_work {m : Bool} {i : Nat} {fa a : Addr} {S : Addr → Option Sp} {qs : List (Row Str)} {f : Str → Nat} (hi : σ[i]? = some (some (.ref fa))) (hS : S fa = some (spWork m)) (h : Ev ta σ H (.ref a)) (hq : QH H a qs) (G : GoodQ qs) (ho : Opt m qs (cashF qs) f) : Gv (tCallA i S (tCons ta tNil)) σ H (fun v H2 => ∃ s, v = .ref s ∧ StH H2 s qs f) := fun H1 e Q q => by
  have fin : ∀ (g : Str → Nat) s H2, Opt m qs (cashF qs) g → StH H2 s qs g → StH H2 s qs f := fun g s H2 hg hs => by
    have e1 : stV qs g = stV qs f := by
      unfold stV
      exact List.map_congr_left fun r hr => by rw [hg.eq ho r hr]
    show H2 s = _
    rw [← e1]
    exact hs
  refine ⟨fa, spWork m, hi, hS, ?_⟩
  refine h H1 e _ fun H2 e2 => ?_
  cases m
  · exact ⟨a, qs, rfl, hq.tx (TX.of (e.trans e2)), G, fun g s H3 hg e3 hs => q _ H3 (e2.trans e3) ⟨s, rfl, fin g s H3 hg hs⟩⟩
  · exact ⟨a, qs, rfl, hq.tx (TX.of (e.trans e2)), G, fun g s H3 hg e3 hs => q _ H3 (e2.trans e3) ⟨s, rfl, fin g s H3 hg hs⟩⟩
/-- _law_state_with(queues, other, a state, fresh, many) -/
theorem est_withS {a a2 : Addr} {qs B : List (Row Str)} {f : Str → Nat} {z : Str} {k : Nat} (h1 : Ev ta σ H (.ref a)) (h2 : Ev tb σ H (.ref a2)) (h3 : Gv tc σ H (fun v H2 => ∃ s, v = .ref s ∧ StH H2 s qs f)) (h4 : Ev td σ H (.str z)) (h5 : Ev ty σ H (.int (k : Nat))) (hq : QH H a qs) (hB : QH H a2 B) (nd : (names qs).Nodup) (l40 : qs.length ≤ 40) (lB : B.length ≤ 40) (hb : ∀ R ∈ B, R.1 = z ∨ ∃ r ∈ qs, r.1 = R.1) :
    EvSt B (ext z k f) (tCall spWithS [] E0 (tCons ta (tCons tb (tCons tc (tCons td (tCons ty tNil)))))) σ H := fun H1 e Q q => by
  refine h1 H1 e _ fun H2 e2 => h2 H2 (e.trans e2) _ fun H3 e3 => h3 H3 (e.trans (e2.trans e3)) _ fun v H4 e4 ⟨s, hv, hs⟩ => ?_
  subst hv
  refine h4 H4 (e.trans (e2.trans (e3.trans e4))) _ fun H5 e5 => h5 H5 (e.trans (e2.trans (e3.trans (e4.trans e5)))) _ fun H6 e6 => ?_
  have e16 := e2.trans (e3.trans (e4.trans (e5.trans e6)))
  exact ⟨a, a2, s, qs, B, f, z, k, rfl, hq.tx (TX.of (e.trans e16)), hB.tx (TX.of (e.trans e16)), nd, l40, lB, (e5.trans e6) _ _ hs, hb, fun p H' e7 hp => q p H' (e16.trans e7) hp⟩
theorem gv_gridP {a : Addr} {qs : List (Row Str)} (h : EvA tr σ H [.ref a]) (hq : QH H a qs) (G : GoodQ qs) : Gv (tCall spGrid [] E0 tr) σ H (fun v H2 => ∃ p f g, v = .ref p ∧ KQ.Least qs (cashF qs) f ∧ KQ.Great qs (cashF qs) g ∧ GridP H2 p qs f g) := fun H1 e Q q => by
  refine h H1 e _ fun H2 e2 => ?_
  rw [List.append_nil]
  exact ⟨a, qs, rfl, hq.tx (TX.of (e.trans e2)), G, fun f g p H3 hf hg e3 hp => q _ H3 (e2.trans e3) ⟨p, f, g, rfl, hf, hg, hp⟩⟩
theorem ev_isGrid {a t : Addr} {qs : List (Row Str)} (h : EvA tr σ H [.ref a, .ref t]) (hq : QH H a qs) (G : GoodQ qs) (hr : RightGrid H t qs) : Ev (tCall (spB PreIsGrid) [] E0 tr) σ H (.bl true) := ev_callB h fun H1 e1 => ⟨a, t, qs, rfl, hq.tx (TX.of e1), G, hr.ex e1⟩
theorem gv_runN {a : Addr} {qs : List (Row Str)} (h : EvA tr σ H [.ref a]) (hq : QH H a qs) (G : GoodQ qs) : Gv (tCall spRunN [] E0 tr) σ H (fun v H2 => ∃ s f ws, v = .ref s ∧ KQ.Least qs (cashF qs) f ∧ KQ.Steps qs (cashF qs) (fun _ => 0) ws f ∧ ws.length ≤ 2400 ∧ H2 s = some (.tup (ws.map V.str))) := fun H1 e Q q => by
  refine h H1 e _ fun H2 e2 => ?_
  rw [List.append_nil]
  exact ⟨a, qs, rfl, hq.tx (TX.of (e.trans e2)), G, fun f s ws H3 hf hs hl e3 hp => q _ H3 (e2.trans e3) ⟨s, f, ws, rfl, hf, hs, hl, hp⟩⟩
/-- two papers, side by side -/
theorem q_parGG {i j : Nat} {P1 P2 : V → Hp → Prop} (h1 : Gv ta σ H P1) (h2 : Gv tb σ H P2) (k : ∀ v w H1 H2, Ex H H1 → Ex H1 H2 → P1 v H1 → P2 w H2 → tz D ((σ.set i (some v)).set j (some w)) H2) :
    tSeq (tPar i j (tCons ta (tCons tb tNil))) tz D σ H := h1 H (Ex.refl H) _ fun v H1 e1 p1 => h2 H1 e1 _ fun w H2 e2 p2 => ⟨v, w, rfl, k v w H1 H2 e1 e2 p1 p2⟩
end
theorem GridP.grid {H : Hp} {p : Addr} {qs : List (Row Str)} {f g : Str → Nat} (h : GridP H p qs f g) : ∃ b1 c1, H p = some (.tup [.str (wordS (flowB qs f g)), .ref b1, .ref c1]) := by
  obtain ⟨b1, c1, _, h1, _⟩ := h
  exact ⟨b1, c1, h1⟩
theorem great_ge {qs : List (Row Str)} (G : KQ.Good qs) {c : Str → Int} {f g : Str → Nat} (hf : KQ.Least qs c f) (hg : KQ.Great qs c g) : KQ.Leq qs f g := hf.1.2 g hg.1.1 (KQ.great_stable G hg)
/-- the law's own look at a house in between -/
def spThrR : Sp := fun vs H Q _ => ∃ (a l c : Addr) (N : Nat) (aq : Addr) (qs : List (Row Str)) (r0 : Row Str) (z : Str), vs = [.ref a, .ref aq, .str r0.1, .str z] ∧ Dr a l c N H ∧ N + 4000 < 1000000 ∧ QH H aq qs ∧ LapG qs r0 z ∧ ∀ H', Dr a l c (N + 200) H' → ExD a l H H' → Q (.bl true) H'
end NQ
namespace NQ
open PySem PySem.Spec PyProof.Rows L2 Evl
open KQ (Row ext setC Reach Both Thru Told Cash toF mc Opt goOn)
theorem goOn_len {h z : Str} : ∀ {ws : List Str}, (goOn h z ws).length ≤ 2 * ws.length
  | [] => Nat.le_refl _
  | n :: ws => by
    rw [KQ.goOn_cons, List.length_append, List.length_cons]
    have := goOn_len (h := h) (z := z) (ws := ws)
    split
    · show 2 + _ ≤ _
      omega
    · show 1 + _ ≤ _
      omega
section
variable {K : PySem.W.Frag} {σ : L2.St} {H H' : Hp} {ta tb tc te tl td ty : TE} {t u : TT} {x y z v : V} {tr : TA} {D : Ends} {tz tb' : TS} {g : TG}
theorem et_thr {SW : Addr → Option Sp} {m : Bool} {fw o aq ab : Addr} {qs B rest : List (Row Str)} {r0 : Row Str} {z : Str} {f : Str → Nat} (h1 : σ[1]? = some (some (.ref aq))) (h2 : σ[2]? = some (some (.str r0.1))) (h3 : σ[3]? = some (some (.str z))) (h4 : σ[4]? = some (some (.ref ab))) (h5 : σ[5]? = some (some (.ref fw))) (h6 : σ[6]? = some (some (.ref o)))
    (hS : SW fw = some (spWork m)) (ho : Opt m qs (cashF qs) f) (hd : H o = some (.dK (tolK qs f))) (hq : QH H aq qs) (hB : QH H ab B) (X : Thru qs B rest r0 z 0 r0.2.1) (L : LapG qs r0 z) (asc : AscS (names B)) :
    EvT (tOr (tTest (tOp (rNeD K) (tCallA 5 SW (tCons (tVar 1) tNil)) (tCall spStateL [] E0 (tCons (tVar 1) (tCons (tVar 6) tNil))))) (tTest (tOp (rNeD K) (tCallA 5 SW (tCons (tVar 4) tNil)) (tCall spWithS [] E0 (tCons (tVar 1) (tCons (tVar 4) (tCons (tCallA 5 SW (tCons (tVar 1) tNil)) (tCons (tVar 3) (tCons (tDGet (tVar 6) (tVar 2)) tNil))))))))) σ H false := by
  have W := L.gq.well
  have GB := L.thruGood X asc
  exact et_is (et_or (et_test (ev_workSame (K := K) (m := m) (i := 5) h5 hS (ev_var h1) hq L.gq (est_stateL (ea_cons (ev_var h1) (ea_cons (ev_var h6) ea_nil)) hq W.l40 hd (fun r hr => dI_at W.nd hr)) ho)) fun _ =>
    et_test (ev_workSame (K := K) (m := m) (i := 5) h5 hS (ev_var h4) hB GB (est_withS (k := f r0.1) (ev_var h1) (ev_var h4) (gv_work h5 hS (ev_var h1) hq L.gq ho) (ev_var h3) (ev_dget (k := Sum.inr r0.1) (ev_var h6) (ev_var h2) hd (dI_at W.nd L.r0m)) hq hB W.nd W.l40 GB.l40 (L.thruKin X asc).back) (X.opt (thru_cash0 X) (KQ.opt_congr (fun r hr => (thru_cashE X hr).symm) ho)))) rfl
theorem ev_isRunU {a : Addr} {qs : List (Row Str)} {ws : List Str} {f : Str → Nat} (h1 : Ev ta σ H (.ref a)) (h2 : EvU tb σ H (ws.map V.str)) (hq : QH H a qs) (G : GoodQ qs) (hs : KQ.Steps qs (cashF qs) (fun _ => 0) ws f) (hst : KQ.Stable qs (cashF qs) f) : Ev (tCall (spB PreIsRun) [] E0 (tCons ta (tCons tb tNil))) σ H (.bl true) := fun H1 e Q q => by
  refine h1 H1 e _ fun H2 e2 => h2 H2 (e.trans e2) _ fun p H3 _ e3 hp => ?_
  refine ⟨⟨a, p, qs, ws, f, rfl, hq.tx (TX.of (e.trans (e2.trans e3))), G, hp, hs, hst⟩, fun v H4 e4 hv => ?_⟩
  rw [show v = .bl true from hv]
  exact q H4 ((e2.trans e3).trans e4)
theorem ev_isGridN {a : Addr} {qs : List (Row Str)} (h1 : Ev ta σ H (.ref a)) (h2 : Gv tb σ H (fun v H2 => ∃ p, v = .ref p ∧ RightGrid H2 p qs)) (hq : QH H a qs) (G : GoodQ qs) : Ev (tCall (spB PreIsGrid) [] E0 (tCons ta (tCons tb tNil))) σ H (.bl true) := fun H1 e Q q => by
  refine h1 H1 e _ fun H2 e2 => h2 H2 (e.trans e2) _ fun v H3 e3 ⟨p, hv, hp⟩ => ?_
  subst hv
  refine ⟨⟨a, p, qs, rfl, hq.tx (TX.of (e.trans (e2.trans e3))), G, hp⟩, fun v H4 e4 hv => ?_⟩
  rw [show v = .bl true from hv]
  exact q H4 ((e2.trans e3).trans e4)
theorem q_asgSt {i : Nat} {qs : List (Row Str)} {f : Str → Nat} (h : EvSt qs f te σ H) (k : ∀ p H1, Ex H H1 → StH H1 p qs f → tz D (σ.set i (some (.ref p))) H1) : tSeq (tAsg te (gName i)) tz D σ H := h H (Ex.refl H) _ fun p H1 e hp => k p H1 e hp
end
/-- flows in both, or in none -/
theorem thr_flow {qs B rest : List (Row Str)} {r0 : Row Str} {z : Str} {f g f2 g2 : Str → Nat} (X : Thru qs B rest r0 z 0 r0.2.1) (hf : KQ.Least qs (cashF qs) f) (hg : KQ.Great qs (cashF qs) g) (hf2 : KQ.Least B (cashF B) f2) (hg2 : KQ.Great B (cashF B) g2) :
    (∀ R ∈ B, f2 R.1 = ext z (f r0.1) f R.1) ∧ (∀ R ∈ B, g2 R.1 = ext z (g r0.1) g R.1) ∧ flowB B f2 g2 = flowB qs f g := by
  have a1 := KQ.least_eq hf2 (X.least (thru_cash0 X) (KQ.least_congr (fun r hr => (thru_cashE X hr).symm) hf))
  have a2 := KQ.great_eq hg2 (X.great (thru_cash0 X) (KQ.great_congr (fun r hr => (thru_cashE X hr).symm) hg))
  refine ⟨a1, a2, ?_⟩
  rw [Bool.eq_iff_iff, flow_of, flow_of]
  constructor
  · intro h r hr
    have key : ∀ R ∈ B, ext z (f r0.1) f R.1 = ext z (g r0.1) g R.1 := fun R hR => by rw [← a1 R hR, ← a2 R hR]; exact h R hR
    rcases X.memQ.mp hr with rfl | hm
    · have := key _ (X.memB.mpr (Or.inr (Or.inl rfl)))
      have this : ext z (f r.1) f r.1 = ext z (g r.1) g r.1 := this
      rw [KQ.ext_ne (X.fr r hr), KQ.ext_ne (X.fr r hr)] at this
      exact this
    · have := key r (X.memB.mpr (Or.inr (Or.inr hm)))
      rw [KQ.ext_ne (X.fr r hr), KQ.ext_ne (X.fr r hr)] at this
      exact this
  · intro h R hR
    rw [a1 R hR, a2 R hR]
    rcases X.memB.mp hR with rfl | rfl | hm
    · show ext z (f r0.1) f z = ext z (g r0.1) g z
      rw [KQ.ext_F, KQ.ext_F]
      exact h r0 X.r0m
    · show ext z (f r0.1) f r0.1 = ext z (g r0.1) g r0.1
      rw [KQ.ext_ne (X.fr r0 X.r0m), KQ.ext_ne (X.fr r0 X.r0m)]
      exact h r0 X.r0m
    · rw [KQ.ext_ne (X.fr R (X.rm hm)), KQ.ext_ne (X.fr R (X.rm hm))]
      exact h R (X.rm hm)
section
variable {P : Program} {w : World} {K : PySem.W.Frag} {mg : Str → Option Value} {base : Heap} {f : Addr} {fd : FuncData} {aK : Addr} {tk : Tk}
theorem ok__law_through_right (F : Fun K "_law_through_right" "_law_through_right" s__law_through_right f fd) (T : Tx K mg aK tk) {f_final_state f_greatest_feasible : Addr} (g_final_state : mg "final_state" = some (.ref f_final_state)) (g_greatest_feasible : mg "greatest_feasible" = some (.ref f_greatest_feasible))
    (ne2 : f_greatest_feasible ≠ f_final_state) (A_work : ∀ fa sp, SWork f_final_state f_greatest_feasible fa = some sp → Held P w K mg base 5 fa sp)
    (c__law_through : Cal P w K mg base CX0 1 "_law_through" ["queues", "house", "fresh"] spThru) (c__law_run_out : Cal P w K mg base CX0 2 "_law_run_out" ["queues"] spRunL) (c__law_drawn_back : Cal P w K mg base CX0 2 "_law_drawn_back" ["queues"] spBackL) (c__law_state : Cal P w K mg base CX0 1 "_law_state" ["queues", "told"] spStateL)
    (c__law_state_with : Cal P w K mg base CX0 2 "_law_state_with" ["queues", "other", "state", "fresh", "many"] spWithS) (c_run : Cal P w K mg base CX0 5 "run" ["queues"] spRunN) (c_gridlock_paper : Cal P w K mg base CX0 5 "gridlock_paper" ["queues"] spGrid) (c_is_run : Cal P w K mg base CX0 5 "is_run" ["queues", "value"] (spB PreIsRun))
    (c_is_gridlock_paper : Cal P w K mg base CX0 5 "is_gridlock_paper" ["queues", "value"] (spB PreIsGrid)) (c__law_number_of : Cal P w K mg base CX0 2 "_law_number_of" ["queues", "state", "house"] spNumOf) (c__law_needs_right : Cal P w K mg base CX0 7 "_law_needs_right" ["draw", "queues", "other", "house", "fresh", "is_through"] spNeedsR) :
    FnOk P w K mg base CX0 8 f fd ["draw", "queues", "house", "fresh"] spThrR := by
  refine F.ok sc__law_through_right (fun vs H Q E h => ?_) (fun cdv A outer s H vs Q E hr h => ?_)
  · obtain ⟨a, l, c, N, aq, qs, r0, z, rfl, _⟩ := h
    rfl
  · obtain ⟨a, l, c, N, aq, qs, r0, z, rfl, dr, hN, hq, L, k⟩ := h
    have hu := hu_of hr
    refine ⟨_, (pss_cons (ps_set (i := 4) sc__law_through_right.nd rfl (Or.inl rfl) (pe_cl c__law_through hr (by decide) (by rfl) (pa_cons (pv 1) (pa_cons (pv 2) (pa_cons (pv 3) pa_nil)))))
      (pss_cons (ps_for PassesOwn.never rfl (piLst (K := K) rfl (pe_lst (pa_cons (pe_tup (pa_cons (pe_glob (by rfl) g_final_state (show RelV (.ref f_final_state) (.ref f_final_state) from rfl)) (pa_cons (pe_cl c__law_run_out hr (by decide) (by rfl) (pa_cons (pv 1) pa_nil)) pa_nil))) (pa_cons (pe_tup (pa_cons (pe_glob (by rfl) g_greatest_feasible (show RelV (.ref f_greatest_feasible) (.ref f_greatest_feasible) from rfl)) (pa_cons (pe_cl c__law_drawn_back hr (by decide) (by rfl) (pa_cons (pv 1) pa_nil)) pa_nil))) pa_nil)))) (pgTup (K := K) (n := 2) rfl rfl (pgs_cons (pg_name (i := 5) sc__law_through_right.nd rfl (Or.inl rfl)) (pgs_cons (pg_name (i := 6) sc__law_through_right.nd rfl (Or.inl rfl)) pgs_nil)))
        (pss_one (ps_if (PW.pt (pw_or (pt_cmpR (opNeD (K := K) rfl hr.units) (pe_callA (i := 5) A_work (hr.mono (by decide)) rfl (Or.inl rfl) (pa_cons (pv 1) pa_nil)) (pe_cl c__law_state hr (by decide) (by rfl) (pa_cons (pv 1) (pa_cons (pv 6) pa_nil))) (nomark _)) (pw_or1 (pt_cmpR (opNeD (K := K) rfl hr.units) (pe_callA (i := 5) A_work (hr.mono (by decide)) rfl (Or.inl rfl) (pa_cons (pv 4) pa_nil)) (pe_cl c__law_state_with hr (by decide) (by rfl) (pa_cons (pv 1) (pa_cons (pv 4) (pa_cons (pe_callA (i := 5) A_work (hr.mono (by decide)) rfl (Or.inl rfl) (pa_cons (pv 1) pa_nil)) (pa_cons (pv 3) (pa_cons (pe_dget hu (pv 6) (pv 2) (fun _ _ => rfl)) pa_nil)))))) (nomark _)))))
        (pss_one (ps_ret pe_bl))
        pss_nil)))
      (pss_cons (ps_set (i := 7) sc__law_through_right.nd rfl (Or.inl rfl) (pe_lst pa_nil))
      (pss_cons (ps_for PassesOwn.never rfl (piTup (K := K) rfl (pe_cl c_run hr (by decide) (by rfl) (pa_cons (pv 1) pa_nil))) (pg_name (i := 8) sc__law_through_right.nd rfl (Or.inl rfl))
        (pss_one (ps_set (i := 7) sc__law_through_right.nd rfl (Or.inl rfl) (pe_op op_cat (pv 7) (pe_ifExp (pt_cmpR op_eq (pv 8) (pv 2) (nomark _)) (pe_lst (pa_cons (pv 8) (pa_cons (pv 3) pa_nil))) (pe_lst (pa_cons (pv 8) pa_nil)))))))
      (pss_cons (ps_par (i := 9) (j := 10) (by rfl) sc__law_through_right.nd rfl rfl (by decide) rfl rfl (pa_cons (pe_cl c_gridlock_paper hr (by decide) (by rfl) (pa_cons (pv 1) pa_nil)) (pa_cons (pe_cl c_gridlock_paper hr (by decide) (by rfl) (pa_cons (pv 4) pa_nil)) pa_nil)) (by rfl))
      (pss_cons (ps_if (PW.pt (pw_or (pt_cmpR op_notBl (pe_cl c_is_run hr (by decide) (by rfl) (pa_cons (pv 4) (pa_cons (pe_callTy (crTup (K := K) rfl) (by rfl) T.tuple (by decide +kernel) (pa_cons (pv 7) pa_nil)) pa_nil))) pe_bl (nomark _)) (pw_or (pt_cmpR op_ne (pe_ix (ixT (K := K) rfl) (pv 9) pe_int (fun _ _ => rfl)) (pe_ix (ixT (K := K) rfl) (pv 10) pe_int (fun _ _ => rfl)) (nomark _)) (pw_or1 (pt_cmpR op_notBl (pe_cl c_is_gridlock_paper hr (by decide) (by rfl) (pa_cons (pv 4) (pa_cons (pv 10) pa_nil))) pe_bl (nomark _))))))
        (pss_one (ps_ret pe_bl))
        pss_nil)
      (pss_cons (ps_if (pt_cmpR op_eq (pe_ix (ixT (K := K) rfl) (pv 9) pe_int (fun _ _ => rfl)) pe_str (nomark _))
        (pss_cons (ps_set (i := 11) sc__law_through_right.nd rfl (Or.inl rfl) (pe_cl c__law_state_with hr (by decide) (by rfl) (pa_cons (pv 1) (pa_cons (pv 4) (pa_cons (pe_ix (ixT (K := K) rfl) (pv 9) pe_int (fun _ _ => rfl)) (pa_cons (pv 3) (pa_cons (pe_cl c__law_number_of hr (by decide) (by rfl) (pa_cons (pv 1) (pa_cons (pe_ix (ixT (K := K) rfl) (pv 9) pe_int (fun _ _ => rfl)) (pa_cons (pv 2) pa_nil)))) pa_nil)))))))
      (pss_one (ps_if (pt_cmpR op_notBl (pe_cl c_is_gridlock_paper hr (by decide) (by rfl) (pa_cons (pv 4) (pa_cons (pe_tup (pa_cons pe_str (pa_cons (pe_ix (ixT (K := K) rfl) (pv 10) pe_int (fun _ _ => rfl)) (pa_cons (pv 11) pa_nil)))) pa_nil))) pe_bl (nomark _))
        (pss_one (ps_ret pe_bl))
        pss_nil)))
        pss_nil)
      (pss_one (ps_ret (pe_cl c__law_needs_right hr (by decide) (by rfl) (pa_cons (pv 0) (pa_cons (pv 1) (pa_cons (pv 4) (pa_cons (pv 2) (pa_cons (pv 3) (pa_cons pe_bl pa_nil)))))))))))))))), ?_⟩
    have W := L.gq.well
    refine q_asgG (σ := [some (.ref a), some (.ref aq), some (.str r0.1), some (.str z), none, none, none, none, none, none, none, none]) (gv_thru (ea_cons (ev_var (i := 1) rfl) (ea_cons (ev_var (i := 2) rfl) (ea_cons (ev_var (i := 3) rfl) ea_nil))) hq W.l40 (fun r hr => W.len r hr) L.thruNd) fun v H1 e1 ⟨ab, B, hv, hB, asc, hqB⟩ => ?_
    subst hv
    obtain ⟨rest, X⟩ := L.thru hB
    have GB := L.thruGood X asc
    have c0 := thru_cash0 X
    have hq1 := hq.tx (TX.of e1)
    -- for work, own
    refine q_forRaw ?_
    refine told_run (σ := [some (.ref a), some (.ref aq), some (.str r0.1), some (.str z), some (.ref ab), none, none, none, none, none, none, none]) (gv_q (ev_var (i := 1) rfl) hq1) W H1 (Ex.refl _) _ fun o1 f1 H2 ho10 e2 hl1 ho1 => ?_
    refine ⟨by show 2 ≤ sizeLine; decide, fun t1 ht1 => ?_⟩
    have x3 : Ex H2 (upd H2 t1 (.tup [.ref f_final_state, .ref o1])) := Ex.new ht1
    have ht13 : (upd H2 t1 (.tup [.ref f_final_state, .ref o1])) t1 = some (.tup [.ref f_final_state, .ref o1]) := upd_same
    generalize upd H2 t1 (.tup [.ref f_final_state, .ref o1]) = H3 at x3 ht13 ⊢
    have e13 := e2.trans x3
    refine ⟨.ref aq, rfl, aq, qs, rfl, hq1.tx (TX.of e13), W, L.gq.c0, fun o2 f2 H4 ho20 e4 hg2 ho2 => ?_⟩
    refine ⟨by show 2 ≤ sizeLine; decide, fun t2 ht2 => ?_⟩
    have x5 : Ex H4 (upd H4 t2 (.tup [.ref f_greatest_feasible, .ref o2])) := Ex.new ht2
    have ht25 : (upd H4 t2 (.tup [.ref f_greatest_feasible, .ref o2])) t2 = some (.tup [.ref f_greatest_feasible, .ref o2]) := upd_same
    generalize upd H4 t2 (.tup [.ref f_greatest_feasible, .ref o2]) = H5 at x5 ht25 ⊢
    refine ⟨by show 2 ≤ sizeLine; decide, fun wl hwl => ?_⟩
    have x6 : Ex H5 (upd H5 wl (.lst [.ref t1, .ref t2])) := Ex.new hwl
    have hwl6 : (upd H5 wl (.lst [.ref t1, .ref t2])) wl = some (.lst [.ref t1, .ref t2]) := upd_same
    generalize upd H5 wl (.lst [.ref t1, .ref t2]) = H6 at x6 hwl6 ⊢
    have e36 := e4.trans (x5.trans x6)
    have e16 := e13.trans e36
    refine q_forL (K := K) (a := wl) (xs := [.ref t1, .ref t2]) (σ := [some (.ref a), some (.ref aq), some (.str r0.1), some (.str z), some (.ref ab), none, none, none, none, none, none, none]) ev_c (sq_of hwl6)
      (fun i σ' H' => ∃ (y5 y6 : Option V), σ' = [some (.ref a), some (.ref aq), some (.str r0.1), some (.str z), some (.ref ab), y5, y6, none, none, none, none, none] ∧ Ex H6 H')
      (fun H7 e7 => ⟨none, none, rfl, e7⟩) (fun i σ' H' _ hP => ?_) (fun i x σ' H' hx hP => ?_) (fun σ' H' hP => ?_)
    · obtain ⟨_, _, _, e⟩ := hP
      exact sq_of (e _ _ hwl6)
    · obtain ⟨y5, y6, rfl, e7⟩ := hP
      have hq7 := hq1.tx (TX.of (e16.trans e7))
      have hB7 := hqB.tx (TX.of (e16.trans e7))
      match i, hx with
      | 0, hx =>
        cases hx
        refine g_tup2 (i := 5) (j := 6) ((e36.trans e7) _ _ ht13) ?_
        refine s_when (b := false) (et_thr (K := K) (m := true) (σ := [some (.ref a), some (.ref aq), some (.str r0.1), some (.str z), some (.ref ab), some (.ref f_final_state), some (.ref o1), none, none, none, none, none]) rfl rfl rfl rfl rfl rfl (by unfold SWork; rw [if_pos rfl]; rfl) hl1 ((x3.trans (e36.trans e7)) _ _ ho1) hq7 hB7 X L asc) (fun z => by cases z) fun _ H8 e8 => ⟨_, _, rfl, e7.trans e8⟩
      | 1, hx =>
        cases hx
        refine g_tup2 (i := 5) (j := 6) ((x6.trans e7) _ _ ht25) ?_
        refine s_when (b := false) (et_thr (K := K) (m := false) (σ := [some (.ref a), some (.ref aq), some (.str r0.1), some (.str z), some (.ref ab), some (.ref f_greatest_feasible), some (.ref o2), none, none, none, none, none]) rfl rfl rfl rfl rfl rfl (by unfold SWork; rw [if_neg ne2, if_pos rfl]; rfl) hg2 ((x5.trans (x6.trans e7)) _ _ ho2) hq7 hB7 X L asc) (fun z => by cases z) fun _ H8 e8 => ⟨_, _, rfl, e7.trans e8⟩
      | i + 2, hx => cases hx
    · obtain ⟨y5, y6, rfl, e7⟩ := hP
      have e17 := e16.trans e7
      -- steps
      refine q_asgL (σ := [some (.ref a), some (.ref aq), some (.str r0.1), some (.str z), some (.ref ab), y5, y6, none, none, none, none, none]) (el_lst ea_nil (by decide)) fun sl0 H8 _ e8 hsl0 => ?_
      have e18 := e17.trans e8
      refine q_forRawT ?_
      refine gv_runN (σ := [some (.ref a), some (.ref aq), some (.str r0.1), some (.str z), some (.ref ab), y5, y6, some (.ref sl0), none, none, none, none]) (ea_cons (ev_var (i := 1) rfl) ea_nil) (hq1.tx (TX.of e18)) L.gq H8 (Ex.refl _) _ fun v H9 e9 ⟨sr, fr, ws, hv, hlr, hst, hwl2, hs⟩ => ?_
      subst hv
      have e19 := e18.trans e9
      have wl' : (ws.map V.str).length = ws.length := List.length_map ..
      refine q_forT (K := K) (a := sr) (xs := ws.map V.str) (σ := [some (.ref a), some (.ref aq), some (.str r0.1), some (.str z), some (.ref ab), y5, y6, some (.ref sl0), none, none, none, none]) ev_c (st_of hs)
        (fun i σ' H' => ∃ (sl : Addr) (y8 : Option V), σ' = [some (.ref a), some (.ref aq), some (.str r0.1), some (.str z), some (.ref ab), y5, y6, some (.ref sl), y8, none, none, none] ∧ Ex H9 H' ∧ H' sl = some (.lst ((goOn r0.1 z (ws.take i)).map V.str)))
        (fun H10 e10 => ⟨sl0, none, rfl, e10, (e9.trans e10) _ _ hsl0⟩) (fun i σ' H' _ hP => ?_) (fun i x σ' H' hx hP => ?_) (fun σ' H' hP => ?_)
      · obtain ⟨_, _, _, e, _⟩ := hP
        exact st_of (e _ _ hs)
      · obtain ⟨sl, y8, rfl, e10, hsl⟩ := hP
        obtain ⟨n, hn, rfl⟩ := map_at hx
        have hgl : (goOn r0.1 z (ws.take i)).length ≤ 4800 := by
          have h1 := goOn_len (h := r0.1) (z := z) (ws := ws.take i)
          rw [List.length_take] at h1
          omega
        refine s_asgL (σ := [some (.ref a), some (.ref aq), some (.str r0.1), some (.str z), some (.ref ab), y5, y6, some (.ref sl), some (.str n), none, none, none]) (el_catN (ev_var (i := 7) rfl) hsl (el_ifL (b := decide (n = r0.1)) (xs := (if n = r0.1 then [n, z] else [n]).map V.str) (et_is (et_test (ev_eqV rfl (ev_var (i := 8) rfl) (ev_var (i := 2) rfl))) (decide_eq_decide.mpr (by rw [V.str.injEq]))) (fun hb H11 _ => by
            rw [if_pos (of_decide_eq_true hb)]
            exact el_lst (ea_cons (ev_var (i := 8) rfl) (ea_cons (ev_var (i := 3) rfl) ea_nil)) (by show 2 ≤ 100000; decide)) (fun hb H11 _ => by
            rw [if_neg (of_decide_eq_false hb)]
            exact el_lst (ea_cons (ev_var (i := 8) rfl) ea_nil) (by show 1 ≤ 100000; decide))) (by
            rw [List.length_map, List.length_map]
            have : (if n = r0.1 then [n, z] else [n]).length ≤ 2 := by
              split
              · exact Nat.le_refl 2
              · exact Nat.le_succ 1
            omega)) fun sl' H11 _ e11 hsl' => ?_
        refine ⟨sl', _, rfl, e10.trans e11, ?_⟩
        rw [KQ.take_succ_of hn, KQ.goOn_snoc, List.map_append]
        exact hsl'
      · obtain ⟨sl, y8, rfl, e10, hsl⟩ := hP
        rw [wl', List.take_length] at hsl
        have e110 := e19.trans e10
        -- paper, again
        refine q_parGG (σ := [some (.ref a), some (.ref aq), some (.str r0.1), some (.str z), some (.ref ab), y5, y6, some (.ref sl), y8, none, none, none]) (gv_gridP (ea_cons (ev_var (i := 1) rfl) ea_nil) (hq1.tx (TX.of e110)) L.gq) (gv_gridP (ea_cons (ev_var (i := 4) rfl) ea_nil) (hqB.tx (TX.of e110)) GB) fun v w2 H11 H12 e11 e12 ⟨p1, fa, ga, hv, hfa, hga, hp1⟩ ⟨p2, fb, gb, hw, hfb, hgb, hp2⟩ => ?_
        subst hv hw
        obtain ⟨ea, eb, efl⟩ := thr_flow X hfa hga hfb hgb
        have e112 := e110.trans (e11.trans e12)
        have hq12 := hq1.tx (TX.of e112)
        have hB12 := hqB.tx (TX.of e112)
        obtain ⟨b1, c1, hP1⟩ := hp1.grid
        obtain ⟨b2, c2, hP2⟩ := hp2.grid
        have hP1 := e12 _ _ hP1
        have hB' : KQ.Steps B (cashF B) (fun _ => 0) (goOn r0.1 z ws) (ext z (fr r0.1) fr) := by
          have := X.steps c0 (KQ.Steps.congr (fun r hr => (thru_cashE X hr).symm) hst)
          rw [show ext z ((fun _ : Str => 0) r0.1) (fun _ => 0) = fun _ => 0 from KQ.ext_zero z] at this
          exact this
        have hS' : KQ.Stable B (cashF B) (ext z (fr r0.1) fr) := (X.least c0 (KQ.least_congr (fun r hr => (thru_cashE X hr).symm) hlr)).2
        refine q_when (σ := [some (.ref a), some (.ref aq), some (.str r0.1), some (.str z), some (.ref ab), y5, y6, some (.ref sl), y8, some (.ref p1), some (.ref p2), none]) (b := false) (et_is (et_or (et_test (ev_notTrue (ev_isRunU (ev_var (i := 4) rfl) (eu_tupQ (K := K) (eql_ev (ev_var (i := 7) rfl) (sq_of ((e11.trans e12) _ _ hsl)))) hB12 GB hB' hS'))) fun _ =>
          et_or (et_test (ev_op (ev_op (ev_var (i := 9) rfl) ev_c (rv_ixT (K := K) (st_of hP1) (at_of (j := 0) rfl rfl))) (ev_op (ev_var (i := 10) rfl) ev_c (rv_ixT (K := K) (st_of hP2) (at_of (j := 0) rfl rfl))) (rv_ne rfl))) fun _ => et_test (ev_notTrue (ev_isGrid (ea_cons (ev_var (i := 4) rfl) (ea_cons (ev_var (i := 10) rfl) ea_nil)) hB12 GB (hp2.right hfb hgb (great_ge GB.well.good hfb hgb))))) (by rw [efl]; simp)) (fun z => by cases z) (fun _ H13 e13' => ?_)
        have e113 := e112.trans e13'
        refine q_when2 (σ := [some (.ref a), some (.ref aq), some (.str r0.1), some (.str z), some (.ref ab), y5, y6, some (.ref sl), y8, some (.ref p1), some (.ref p2), none]) (b := !flowB qs fa ga) (et_is (et_test (ev_eqV rfl (ev_op (ev_var (i := 9) rfl) ev_c (rv_ixT (K := K) (st_of (e13' _ _ hP1)) (at_of (j := 0) rfl rfl))) (ev_c (v := .str "gridlock")))) (by cases flowB qs fa ga <;> rfl))
          (fun σ' H' => ∃ y11 : Option V, σ' = [some (.ref a), some (.ref aq), some (.str r0.1), some (.str z), some (.ref ab), y5, y6, some (.ref sl), y8, some (.ref p1), some (.ref p2), y11] ∧ Ex H13 H') (fun σ' H' hP => ?_) (fun hb H14 e14 kk => ?_) (fun _ H14 e14 => ⟨none, rfl, e14⟩)
        · obtain ⟨y11, rfl, e14⟩ := hP
          have e114 := e1.trans (e113.trans e14)
          show tCall spNeedsR [] E0 (tCons (tVar 0) (tCons (tVar 1) (tCons (tVar 4) (tCons (tVar 2) (tCons (tVar 3) (tCons (tC (.bl true)) tNil)))))) [some (.ref a), some (.ref aq), some (.str r0.1), some (.str z), some (.ref ab), y5, y6, some (.ref sl), y8, some (.ref p1), some (.ref p2), y11] H' Q
          refine (ea_cons (ev_var (i := 0) rfl) (ea_cons (ev_var (i := 1) rfl) (ea_cons (ev_var (i := 4) rfl) (ea_cons (ev_var (i := 2) rfl) (ea_cons (ev_var (i := 3) rfl) (ea_cons ev_c ea_nil))))) : EvA _ [some (.ref a), some (.ref aq), some (.str r0.1), some (.str z), some (.ref ab), y5, y6, some (.ref sl), y8, some (.ref p1), some (.ref p2), y11] H' [.ref a, .ref aq, .ref ab, .str r0.1, .str z, .bl true]) H' (Ex.refl _) _ fun H15 e15 => ?_
          have e115 := e114.trans e15
          exact ⟨a, l, c, N, aq, ab, qs, B, r0.1, z, true, fun f => f r0.1, rfl, dr.mono e115, by omega, hq.tx (TX.of e115), hqB.tx (TX.of (e113.trans (e14.trans e15))), L.thruKin X asc, fun _ => rfl, (fun z => by cases z), L.l2, fun H16 d16 e16' => k H16 d16 ((ExD.of e115).trans e16')⟩
        · have hflow : flowB qs fa ga = false := by
            cases hh : flowB qs fa ga
            · rfl
            · rw [hh] at hb
              cases hb
          obtain ⟨b1', c1', ws1, hp1a, _, _, _, hp1b⟩ := hp1
          have hst1 : StH H11 c1' qs fa := by
            rcases hp1b with ⟨hh, _⟩ | ⟨_, hh⟩
            · rw [hflow] at hh
              cases hh
            · exact hh
          have ep : [V.str (wordS (flowB qs fa ga)), .ref b1', .ref c1'] = [.str (wordS (flowB qs fa ga)), .ref b1, .ref c1] := by
            have h1 := e12 _ _ hp1a
            rw [hP1] at h1
            cases h1
            rfl
          have hc1 : c1' = c1 := by
            injection ep with _ h1
            injection h1 with _ h2
            injection h2 with h3 _
            exact V.ref.inj h3
          subst hc1
          have e1314 := (e12.trans e13').trans e14
          have hst14 : StH H14 c1' qs fa := e1314 _ _ hst1
          have hP1' := (e13'.trans e14) _ _ hP1
          have hP2' := (e13'.trans e14) _ _ hP2
          have pix : ∀ {H15 : Hp} {y11 : Option V}, Ex H14 H15 → Ev (tOp (rIxT K) (tVar 9) (tC (.int 2))) [some (.ref a), some (.ref aq), some (.str r0.1), some (.str z), some (.ref ab), y5, y6, some (.ref sl), y8, some (.ref p1), some (.ref p2), y11] H15 (.ref c1') := fun e => ev_op (ev_var (i := 9) rfl) ev_c (rv_ixT (st_of (e _ _ hP1')) (at_of (j := 2) rfl rfl))
          have e114 := e113.trans e14
          refine q_asgSt (σ := [some (.ref a), some (.ref aq), some (.str r0.1), some (.str z), some (.ref ab), y5, y6, some (.ref sl), y8, some (.ref p1), some (.ref p2), none]) (est_withS (k := fa r0.1) (f := fa) (ev_var (i := 1) rfl) (ev_var (i := 4) rfl) (fun H15 e15 Q' q' => pix e15 H15 (Ex.refl _) _ fun H16 e16' => q' _ H16 e16' ⟨c1', rfl, (e15.trans e16') _ _ hst14⟩) (ev_var (i := 3) rfl) (ev_numOf (ea_cons (ev_var (i := 1) rfl) (ea_cons (pix (Ex.refl _)) (ea_cons (ev_var (i := 2) rfl) ea_nil))) (hq1.tx (TX.of e114)) W.nd W.l40 hst14 L.r0m) (hq1.tx (TX.of e114)) (hqB.tx (TX.of e114)) W.nd W.l40 GB.l40 (L.thruKin X asc).back) fun sp H15 e15 hsp => ?_
          obtain ⟨b2', c2', ws2, hp2a, hp2w, hp2k, _, _⟩ := hp2
          have hb2 : b2' = b2 := by
            rw [hP2] at hp2a
            cases hp2a
            rfl
          subst hb2
          refine s_when (σ := [some (.ref a), some (.ref aq), some (.str r0.1), some (.str z), some (.ref ab), y5, y6, some (.ref sl), y8, some (.ref p1), some (.ref p2), some (.ref sp)]) (b := false) (et_test (ev_notTrue (ev_isGridN (ev_var (i := 4) rfl) ((gv_tup3 (x := .str "gridlock") (y := .ref b2') (z := .ref sp) ev_c (ev_op (ev_var (i := 10) rfl) ev_c (rv_ixT (K := K) (st_of (e15 _ _ hP2')) (at_of (j := 1) rfl rfl))) (ev_var (i := 11) rfl)).imp fun v H16 e16' ⟨p3, hv, hp3⟩ => ⟨p3, hv, ?_⟩) (hqB.tx (TX.of (e114.trans e15))) GB))) (fun z => by cases z) fun _ H16 e16' => kk _ _ ⟨_, rfl, e14.trans (e15.trans e16')⟩
          refine ⟨ws2, gb, false, b2', sp, hp3, (((e13'.trans e14).trans e15).trans e16') _ _ hp2w, hp2k, hgb, Or.inr ⟨rfl, ext z (fa r0.1) fa, e16' _ _ hsp, X.extW hfa.1.1, X.extS c0 (KQ.least_congr (fun r hr => (thru_cashE X hr).symm) hfa).2, fun hle => ?_⟩⟩
          have : flowB B fb gb = true := flow_of.mpr fun R hR => by
            have h1 := hle R hR
            rw [← ea R hR] at h1
            exact Nat.le_antisymm (great_ge GB.well.good hfb hgb R hR) h1
          rw [efl, hflow] at this
          cases this
end
end NQ
namespace NQ
open PySem PySem.Spec PyProof.Rows L2 Evl
open KQ (Row ext setC Reach Both Thru Told Cash toF mc Opt goOn)
theorem filter_one {qs : List (Row Str)} (nd : (names qs).Nodup) {r0 : Row Str} (h : r0 ∈ qs) : qs.filter (fun r => decide (r.1 = r0.1)) = [r0] := by
  obtain ⟨pre, post, rfl⟩ := List.append_of_mem h
  have n1 : ∀ r ∈ pre ++ post, r.1 ≠ r0.1 := fun r hr z => by
    have hp : (names (pre ++ r0 :: post)).Perm (names (r0 :: (pre ++ post))) := List.perm_middle.map _
    exact (List.nodup_cons.mp (hp.nodup_iff.mp nd)).1 (List.mem_map.mpr ⟨r, hr, z⟩)
  rw [List.filter_append, List.filter_cons, if_pos (decide_eq_true rfl)]
  rw [List.filter_eq_nil_iff.mpr fun r hr => by rw [decide_eq_false (n1 r (List.mem_append_left _ hr))]; decide]
  rw [List.filter_eq_nil_iff.mpr fun r hr => by rw [decide_eq_false (n1 r (List.mem_append_right _ hr))]; decide]
  rfl
theorem lenOf_none : ∀ {qs : List (Row Str)} {y : Str}, y ∉ names qs → KQ.lenOf qs y = 0 := fun {qs y} h => by
  unfold KQ.lenOf
  have : qs.find? (fun r => decide (r.1 = y)) = none := List.find?_eq_none.mpr fun r hr => by
    rw [decide_eq_false fun e => h (List.mem_map.mpr ⟨r, hr, e⟩)]
    decide
  rw [this]
  rfl
theorem told_lenF {qs B : List (Row Str)} {r0 : Row Str} {z : Str} (X : Told qs B (noCash r0.1) r0 z r0.2.1 r0.2.1) : KQ.lenOf B = ext z 1 (KQ.lenOf qs) := by
  funext y
  by_cases h : y ∈ names B
  · obtain ⟨R, hR, rfl⟩ := mem_name h
    exact Told.len X R hR
  · rw [lenOf_none h]
    have hz : y ≠ z := fun e => h (by rw [e]; exact List.mem_map.mpr ⟨_, X.memB.mpr (Or.inl rfl), rfl⟩)
    rw [KQ.ext_ne hz, lenOf_none fun hq => h (by
      obtain ⟨r, hr, rfl⟩ := mem_name hq
      exact List.mem_map.mpr ⟨_, X.memB.mpr (Or.inr ⟨r, hr, rfl⟩), rfl⟩)]
section
variable {K : PySem.W.Frag} {σ : L2.St} {H H' : Hp} {ta tb tc te tl td ty : TE} {t u : TT} {x y z v : V} {tr : TA} {D : Ends} {tz tb' : TS} {g : TG}
theorem ev_ixNew {xs : List V} (h : EvL te σ H xs) (hx : xs[0]? = some v) : Ev (tOp (rIxL K) te (tC (.int 0))) σ H v := fun H1 e Q q => by
  refine h H1 e _ fun p H2 _ e2 hp => ⟨p, xs, 0, v, rfl, rfl, sq_of hp, at_of (j := 0) rfl hx, q H2 e2⟩
theorem gv_work0 {m : Bool} {i : Nat} {fa a : Addr} {S : Addr → Option Sp} {qs : List (Row Str)} (hi : σ[i]? = some (some (.ref fa))) (hS : S fa = some (spWork m)) (h : Ev ta σ H (.ref a)) (hq : QH H a qs) (G : GoodQ qs) : Gv (tCallA i S (tCons ta tNil)) σ H (fun v H2 => ∃ s f, v = .ref s ∧ Opt m qs (cashF qs) f ∧ StH H2 s qs f) := fun H1 e Q q => by
  refine ⟨fa, spWork m, hi, hS, ?_⟩
  refine h H1 e _ fun H2 e2 => ?_
  cases m
  · exact ⟨a, qs, rfl, hq.tx (TX.of (e.trans e2)), G, fun g s H3 hg e3 hs => q _ H3 (e2.trans e3) ⟨s, g, rfl, hg, hs⟩⟩
  · exact ⟨a, qs, rfl, hq.tx (TX.of (e.trans e2)), G, fun g s H3 hg e3 hs => q _ H3 (e2.trans e3) ⟨s, g, rfl, hg, hs⟩⟩
theorem gv_withG {a a2 : Addr} {qs B : List (Row Str)} {z : Str} {k : Nat} {P1 : (Str → Nat) → Prop} (h1 : Ev ta σ H (.ref a)) (h2 : Ev tb σ H (.ref a2)) (h3 : Gv tc σ H (fun v H2 => ∃ s f, v = .ref s ∧ P1 f ∧ StH H2 s qs f)) (h4 : Ev td σ H (.str z)) (h5 : Ev ty σ H (.int (k : Nat))) (hq : QH H a qs) (hB : QH H a2 B) (nd : (names qs).Nodup) (l40 : qs.length ≤ 40) (lB : B.length ≤ 40) (hb : ∀ R ∈ B, R.1 = z ∨ ∃ r ∈ qs, r.1 = R.1) :
    Gv (tCall spWithS [] E0 (tCons ta (tCons tb (tCons tc (tCons td (tCons ty tNil)))))) σ H (fun v H2 => ∃ s f, v = .ref s ∧ (∃ f', P1 f' ∧ f = ext z k f') ∧ StH H2 s B f) := fun H1 e Q q => by
  refine h1 H1 e _ fun H2 e2 => h2 H2 (e.trans e2) _ fun H3 e3 => h3 H3 (e.trans (e2.trans e3)) _ fun v H4 e4 ⟨s, f, hv, hf, hs⟩ => ?_
  subst hv
  refine h4 H4 (e.trans (e2.trans (e3.trans e4))) _ fun H5 e5 => h5 H5 (e.trans (e2.trans (e3.trans (e4.trans e5)))) _ fun H6 e6 => ?_
  have e16 := e2.trans (e3.trans (e4.trans (e5.trans e6)))
  exact ⟨a, a2, s, qs, B, f, z, k, rfl, hq.tx (TX.of (e.trans e16)), hB.tx (TX.of (e.trans e16)), nd, l40, lB, (e5.trans e6) _ _ hs, hb, fun p H' e7 hp => q _ H' (e16.trans e7) ⟨p, _, rfl, ⟨f, hf, rfl⟩, hp⟩⟩
theorem ev_neStG {B : List (Row Str)} {P1 P2 : (Str → Nat) → Prop} (h1 : Gv ta σ H (fun v H2 => ∃ s f, v = .ref s ∧ P1 f ∧ StH H2 s B f)) (h2 : Gv tb σ H (fun v H2 => ∃ s f, v = .ref s ∧ P2 f ∧ StH H2 s B f)) (he : ∀ f g, P1 f → P2 g → KQ.EqOn B f g) : Ev (tOp (rNeD K) ta tb) σ H (.bl false) := fun H1 e Q q => by
  refine h1 H1 e _ fun v H2 e2 ⟨s, f, hv, p1, hs⟩ => h2 H2 (e.trans e2) _ fun w H3 e3 ⟨s2, g, hw, p2, hs2⟩ => ?_
  subst hv hw
  refine ⟨_, _, dp_stT (e3 _ _ hs), dp_stT hs2, shaped_intsT _, shaped_intsT _, ?_⟩
  rw [eqv_intsT, decide_eq_true (stI_eq.mpr (he f g p1 p2))]
  exact q H3 (e2.trans e3)
theorem ev_isRunG {a : Addr} {qs : List (Row Str)} (h1 : Ev ta σ H (.ref a)) (h2 : Gv tb σ H (fun v H2 => ∃ p f ws, v = .ref p ∧ KQ.Steps qs (cashF qs) (fun _ => 0) ws f ∧ KQ.Stable qs (cashF qs) f ∧ H2 p = some (.tup (ws.map V.str)))) (hq : QH H a qs) (G : GoodQ qs) : Ev (tCall (spB PreIsRun) [] E0 (tCons ta (tCons tb tNil))) σ H (.bl true) := fun H1 e Q q => by
  refine h1 H1 e _ fun H2 e2 => h2 H2 (e.trans e2) _ fun v H3 e3 ⟨p, f, ws, hv, hs, hst, hp⟩ => ?_
  subst hv
  refine ⟨⟨a, p, qs, ws, f, rfl, hq.tx (TX.of (e.trans (e2.trans e3))), G, hp, hs, hst⟩, fun v H4 e4 hv => ?_⟩
  rw [show v = .bl true from hv]
  exact q H4 ((e2.trans e3).trans e4)
theorem ev_isBackG {a : Addr} {qs : List (Row Str)} (h1 : Ev ta σ H (.ref a)) (h2 : Gv tb σ H (fun v H2 => ∃ p f ws, v = .ref p ∧ KQ.Backs qs (cashF qs) (KQ.lenOf qs) ws f ∧ KQ.Feas qs (cashF qs) f ∧ H2 p = some (.tup (ws.map V.str)))) (hq : QH H a qs) (G : GoodQ qs) : Ev (tCall (spB PreIsBack) [] E0 (tCons ta (tCons tb tNil))) σ H (.bl true) := fun H1 e Q q => by
  refine h1 H1 e _ fun H2 e2 => h2 H2 (e.trans e2) _ fun v H3 e3 ⟨p, f, ws, hv, hs, hst, hp⟩ => ?_
  subst hv
  refine ⟨⟨a, p, qs, ws, f, rfl, hq.tx (TX.of (e.trans (e2.trans e3))), G, hp, hs, hst⟩, fun v H4 e4 hv => ?_⟩
  rw [show v = .bl true from hv]
  exact q H4 ((e2.trans e3).trans e4)
theorem gv_backN {a : Addr} {qs : List (Row Str)} (h : EvA tr σ H [.ref a]) (hq : QH H a qs) (G : GoodQ qs) : Gv (tCall spBackN [] E0 tr) σ H (fun v H2 => ∃ s f ws, v = .ref s ∧ KQ.Great qs (cashF qs) f ∧ KQ.Backs qs (cashF qs) (KQ.lenOf qs) ws f ∧ H2 s = some (.tup (ws.map V.str))) := fun H1 e Q q => by
  refine h H1 e _ fun H2 e2 => ?_
  rw [List.append_nil]
  exact ⟨a, qs, rfl, hq.tx (TX.of (e.trans e2)), G, fun f s ws H3 hf hs hl e3 hp => q _ H3 (e2.trans e3) ⟨s, f, ws, rfl, hf, hs, hp⟩⟩
/-- (fresh,) + run(queues) -/
theorem gv_catRun {z : Str} {R : (Str → Nat) → List Str → Prop} (h1 : Ev ta σ H (.str z)) (h2 : Gv tb σ H (fun v H2 => ∃ s f ws, v = .ref s ∧ R f ws ∧ ws.length ≤ 2400 ∧ H2 s = some (.tup (ws.map V.str)))) : Gv (tOp (rCatT K) (tTup (tCons ta tNil)) tb) σ H (fun v H2 => ∃ p f ws, v = .ref p ∧ R f ws ∧ H2 p = some (.tup ((z :: ws).map V.str))) := fun H1 e Q q => by
  refine h1 H1 e _ fun H2 e2 => ⟨by show 1 ≤ sizeLine; decide, fun p hp => ?_⟩
  have x3 : Ex H2 (L2.upd H2 p (.tup [.str z])) := Ex.new hp
  have hp3 : (L2.upd H2 p (.tup [.str z])) p = some (.tup [.str z]) := upd_same
  generalize L2.upd H2 p (.tup [.str z]) = H3 at x3 hp3 ⊢
  refine h2 H3 (e.trans (e2.trans x3)) _ fun v H4 e4 ⟨s, f, ws, hv, hR, hl, hs⟩ => ?_
  subst hv
  refine ⟨p, s, [.str z], ws.map V.str, rfl, rfl, st_of (e4 _ _ hp3), st_of hs, by simp, by rw [List.length_map]; exact sz_of (by show 1 + ws.length ≤ 100000; omega), fun hn => ?_, fun hn q2 hq2 => ?_⟩
  · have hw : ws = [] := by
      cases ws with
      | nil => rfl
      | cons _ _ => cases hn
    subst hw
    exact q _ H4 ((e2.trans x3).trans e4) ⟨p, f, [], rfl, hR, e4 _ _ hp3⟩
  · exact q _ _ (((e2.trans x3).trans e4).trans (Ex.new hq2)) ⟨q2, f, ws, rfl, hR, upd_same⟩
theorem gv_gridW {a : Addr} {qs : List (Row Str)} (h : EvA tr σ H [.ref a]) (hq : QH H a qs) (G : GoodQ qs) : Gv (tOp (rIxT K) (tCall spGrid [] E0 tr) (tC (.int 0))) σ H (fun v _ => ∃ f g, v = .str (wordS (flowB qs f g)) ∧ KQ.Least qs (cashF qs) f ∧ KQ.Great qs (cashF qs) g) := fun H1 e Q q => by
  refine gv_gridP h hq G H1 e _ fun v H2 e2 ⟨p, f, g, hv, hf, hg, hp⟩ => ?_
  subst hv
  obtain ⟨b1, c1, h1⟩ := hp.grid
  exact ⟨p, [.str (wordS (flowB qs f g)), .ref b1, .ref c1], 0, .str (wordS (flowB qs f g)), rfl, rfl, st_of h1, at_of (j := 0) rfl rfl, q _ H2 e2 ⟨f, g, rfl, hf, hg⟩⟩
theorem ev_neWords {P1 P2 : Bool → Prop} (h1 : Gv ta σ H (fun v _ => ∃ b, v = .str (wordS b) ∧ P1 b)) (h2 : Gv tb σ H (fun v _ => ∃ b, v = .str (wordS b) ∧ P2 b)) (he : ∀ b c, P1 b → P2 c → b = c) : Ev (tOp rNe ta tb) σ H (.bl false) := fun H1 e Q q => by
  refine h1 H1 e _ fun v H2 e2 ⟨b, hv, p1⟩ => h2 H2 (e.trans e2) _ fun w H3 e3 ⟨c, hw, p2⟩ => ?_
  subst hv hw
  have := he b c p1 p2
  subst this
  refine ⟨rfl, ?_⟩
  rw [decide_eq_true rfl]
  exact q H3 (e2.trans e3)
/-- found + [(fresh, cash, ((house, cash),))] -/
theorem ers_told {fo : Addr} {ps : List Addr} {rows : List (Row Str)} {h z : Str} {v : Int} (hl : Ev tl σ H (.ref fo)) (hf : H fo = some (.lst (ps.map V.ref))) (hpr : Paired (RowH H) ps rows) (l40 : rows.length ≤ 40) (h1 : Ev ta σ H (.str z)) (h2 : Ev tb σ H (.int v)) (h3 : Ev tc σ H (.str h)) (h4 : Ev td σ H (.int v)) :
    EvRows (rows ++ [(z, v, [(h, v)])]) (tOp rCat tl (tLst (tCons (tTup (tCons ta (tCons tb (tCons (tTup (tCons (tTup (tCons tc (tCons td tNil))) tNil)) tNil)))) tNil))) σ H := fun H1 e Q q => by
  refine hl H1 e _ fun H2 e2 => h1 H2 (e.trans e2) _ fun H3 e3 => h2 H3 (e.trans (e2.trans e3)) _ fun H4 e4 => h3 H4 (e.trans (e2.trans (e3.trans e4))) _ fun H5 e5 => h4 H5 (e.trans (e2.trans (e3.trans (e4.trans e5)))) _ fun H6 e6 => ?_
  have e16 := e2.trans (e3.trans (e4.trans (e5.trans e6)))
  refine ⟨by show 2 ≤ sizeLine; decide, fun p1 hp1 => ⟨by show 1 ≤ sizeLine; decide, fun p2 hp2 => ⟨by show 3 ≤ sizeLine; decide, fun p3 hp3 => ⟨by show 1 ≤ sizeLine; decide, fun p4 hp4 => ?_⟩⟩⟩⟩
  have x1 : Ex H6 (L2.upd H6 p1 (.tup [.str h, .int v])) := Ex.new hp1
  have y1 : (L2.upd H6 p1 (.tup [.str h, .int v])) p1 = some (.tup [.str h, .int v]) := upd_same
  generalize L2.upd H6 p1 (.tup [.str h, .int v]) = H7 at x1 y1 hp2 hp3 hp4 ⊢
  have x2 : Ex H7 (L2.upd H7 p2 (.tup [.ref p1])) := Ex.new hp2
  have y2 : (L2.upd H7 p2 (.tup [.ref p1])) p2 = some (.tup [.ref p1]) := upd_same
  generalize L2.upd H7 p2 (.tup [.ref p1]) = H8 at x2 y2 hp3 hp4 ⊢
  have x3 : Ex H8 (L2.upd H8 p3 (.tup [.str z, .int v, .ref p2])) := Ex.new hp3
  have y3 : (L2.upd H8 p3 (.tup [.str z, .int v, .ref p2])) p3 = some (.tup [.str z, .int v, .ref p2]) := upd_same
  generalize L2.upd H8 p3 (.tup [.str z, .int v, .ref p2]) = H9 at x3 y3 hp4 ⊢
  have x4 : Ex H9 (L2.upd H9 p4 (.lst [.ref p3])) := Ex.new hp4
  have y4 : (L2.upd H9 p4 (.lst [.ref p3])) p4 = some (.lst [.ref p3]) := upd_same
  generalize L2.upd H9 p4 (.lst [.ref p3]) = H10 at x4 y4 ⊢
  have e110 := e16.trans (x1.trans (x2.trans (x3.trans x4)))
  have lp : ps.length = rows.length := paired_len hpr
  refine ⟨fo, p4, ps.map V.ref, [.ref p3], rfl, rfl, (e.trans e110) _ _ hf, y4, by rw [List.length_map]; exact sz_of (by show ps.length + 1 ≤ 100000; omega), fun l hl => ?_⟩
  have x5 : Ex H10 (L2.upd H10 l (.lst (ps.map V.ref ++ [.ref p3]))) := Ex.new hl
  refine q l (ps ++ [p3]) _ (e110.trans x5) (by rw [upd_same, List.map_append]; rfl) (paired_snoc (L2.Paired.mapP hpr fun _ _ w => w.tx (TX.of (e.trans (e110.trans x5)))) ⟨p2, (x4.trans x5) _ _ y3, [p1], (x3.trans (x4.trans x5)) _ _ y2, .cons ((x2.trans (x3.trans (x4.trans x5))) _ _ y1) .nil⟩)
end
theorem told_flow {qs B : List (Row Str)} {r0 : Row Str} {z : Str} {f g f2 g2 : Str → Nat} (X : Told qs B (noCash r0.1) r0 z r0.2.1 r0.2.1) (hf : KQ.Least qs (cashF qs) f) (hg : KQ.Great qs (cashF qs) g) (hf2 : KQ.Least B (cashF B) f2) (hg2 : KQ.Great B (cashF B) g2) : flowB B f2 g2 = flowB qs f g := by
  have C := Told.cash X
  have a1 := KQ.least_eq hf2 (X.least C hf)
  have a2 := KQ.great_eq hg2 (X.great C hg)
  rw [Bool.eq_iff_iff, flow_of, flow_of]
  constructor
  · intro h r hr
    have hR := X.memB.mpr (Or.inr ⟨r, hr, rfl⟩)
    have h1 := h _ hR
    rw [a1 _ hR, a2 _ hR] at h1
    have h1 : ext z 1 f r.1 = ext z 1 g r.1 := h1
    rw [KQ.ext_ne (X.fr r hr), KQ.ext_ne (X.fr r hr)] at h1
    exact h1
  · intro h R hR
    rw [a1 R hR, a2 R hR]
    rcases X.memB.mp hR with rfl | ⟨q, hq, rfl⟩
    · show ext z 1 f z = ext z 1 g z
      rw [KQ.ext_F, KQ.ext_F]
    · show ext z 1 f q.1 = ext z 1 g q.1
      rw [KQ.ext_ne (X.fr q hq), KQ.ext_ne (X.fr q hq)]
      exact h q hq
end NQ
namespace NQ
open PySem PySem.Spec PyProof.Rows L2 Evl
open KQ (Row ext setC Reach Both Thru Told Cash toF mc Opt goOn)
section
variable {P : Program} {w : World} {K : PySem.W.Frag} {mg : Str → Option Value} {base : Heap} {f : Addr} {fd : FuncData} {aK : Addr} {tk : Tk}
theorem ok__law_told_right (F : Fun K "_law_told_right" "_law_told_right" s__law_told_right f fd) (T : Tx K mg aK tk) {f_final_state f_greatest_feasible : Addr} (g_final_state : mg "final_state" = some (.ref f_final_state)) (g_greatest_feasible : mg "greatest_feasible" = some (.ref f_greatest_feasible))
    (ne2 : f_greatest_feasible ≠ f_final_state) (A_work : ∀ fa sp, SWork f_final_state f_greatest_feasible fa = some sp → Held P w K mg base 5 fa sp)
    (c__law_state_with : Cal P w K mg base CX0 2 "_law_state_with" ["queues", "other", "state", "fresh", "many"] spWithS) (c_run : Cal P w K mg base CX0 5 "run" ["queues"] spRunN) (c_retreat : Cal P w K mg base CX0 5 "retreat" ["queues"] spBackN) (c_gridlock_paper : Cal P w K mg base CX0 5 "gridlock_paper" ["queues"] spGrid) (c_is_run : Cal P w K mg base CX0 5 "is_run" ["queues", "value"] (spB PreIsRun))
    (c_is_retreat : Cal P w K mg base CX0 5 "is_retreat" ["queues", "value"] (spB PreIsBack)) (c__law_needs_right : Cal P w K mg base CX0 7 "_law_needs_right" ["draw", "queues", "other", "house", "fresh", "is_through"] spNeedsR) :
    FnOk P w K mg base CX0 8 f fd ["draw", "queues", "house", "fresh"] spThrR := by
  refine F.ok sc__law_told_right (fun vs H Q E h => ?_) (fun cdv A outer s H vs Q E hr h => ?_)
  · obtain ⟨a, l, c, N, aq, qs, r0, z, rfl, _⟩ := h
    rfl
  · obtain ⟨a, l, c, N, aq, qs, r0, z, rfl, dr, hN, hq, L, k⟩ := h
    have hu := hu_of hr
    refine ⟨_, (pss_cons (ps_set (i := 4) sc__law_told_right.nd rfl (Or.inl rfl) (pe_ix (ixL (K := K) rfl) (pe_lc (own := [("part", 5)]) rfl sc__law_told_right.nd (piTup (K := K) rfl (pe_ix (ixT (K := K) rfl) (pv 1) pe_int (fun _ _ => rfl))) (blkOk_by (own := [("part", 5)]) (N := N__law_told_right) (sc := defScope s__law_told_right) (by decide +kernel)) (fun _ _ _ _ _ => (pg_name (i := 5) sc__law_told_right.nd rfl (Or.inl rfl))) (fun _ _ _ _ _ => pts_one (pt_cmpR op_eq (pe_ix (ixT (K := K) rfl) (pv 5) pe_int (fun _ _ => rfl)) (pv 2) (nomark _))) (fun _ _ _ _ _ => (pe_ix (ixT (K := K) rfl) (pv 5) pe_int (fun _ _ => rfl)))) pe_int (fun _ _ => rfl)))
      (pss_cons (ps_if (pt_cmpR op_eq (pv 4) pe_int (nomark _))
        (pss_one (ps_ret pe_bl))
        pss_nil)
      (pss_cons (ps_setLc (i := 6) (own := [("name", 7), ("own", 8), ("payments", 9)]) rfl sc__law_told_right.nd rfl rfl (sw_true rfl rfl rfl (by decide +kernel)) (piTup (K := K) rfl (pe_ix (ixT (K := K) rfl) (pv 1) pe_int (fun _ _ => rfl))) (blkOk_by (own := [("name", 7), ("own", 8), ("payments", 9)]) (N := N__law_told_right) (sc := defScope s__law_told_right) (by decide +kernel)) (fun _ _ _ _ _ => (pgTup (K := K) (n := 3) rfl rfl (pgs_cons (pg_name (i := 7) sc__law_told_right.nd rfl (Or.inl rfl)) (pgs_cons (pg_name (i := 8) sc__law_told_right.nd rfl (Or.inl rfl)) (pgs_cons (pg_name (i := 9) sc__law_told_right.nd rfl (Or.inl rfl)) pgs_nil))))) (fun _ _ _ _ _ => pts_nil) (fun _ _ _ _ _ => (pe_tup (pa_cons (pv 7) (pa_cons (pe_ifExp (pt_cmpR op_eq (pv 7) (pv 2) (nomark _)) pe_int (pv 8)) (pa_cons (pv 9) pa_nil))))))
      (pss_cons (ps_set (i := 10) sc__law_told_right.nd rfl (Or.inl rfl) (pe_tup (pa_cons pe_str (pa_cons (pe_callTy (crTup (K := K) rfl) (by rfl) T.tuple (by decide +kernel) (pa_cons (pe_callB (crSortedN (K := K) rfl) (by rfl) T.sorted (by decide +kernel) (pa_cons (pe_op op_cat (pv 6) (pe_lst (pa_cons (pe_tup (pa_cons (pv 3) (pa_cons (pv 4) (pa_cons (pe_tup (pa_cons (pe_tup (pa_cons (pv 2) (pa_cons (pv 4) pa_nil))) pa_nil)) pa_nil)))) pa_nil))) pa_nil)) pa_nil)) pa_nil))))
      (pss_cons (ps_for PassesOwn.never rfl (piLst (K := K) rfl (pe_lst (pa_cons (pe_glob (by rfl) g_final_state (show RelV (.ref f_final_state) (.ref f_final_state) from rfl)) (pa_cons (pe_glob (by rfl) g_greatest_feasible (show RelV (.ref f_greatest_feasible) (.ref f_greatest_feasible) from rfl)) pa_nil)))) (pg_name (i := 11) sc__law_told_right.nd rfl (Or.inl rfl))
        (pss_one (ps_if (pt_cmpR (opNeD (K := K) rfl hr.units) (pe_callA (i := 11) A_work (hr.mono (by decide)) rfl (Or.inl rfl) (pa_cons (pv 10) pa_nil)) (pe_cl c__law_state_with hr (by decide) (by rfl) (pa_cons (pv 1) (pa_cons (pv 10) (pa_cons (pe_callA (i := 11) A_work (hr.mono (by decide)) rfl (Or.inl rfl) (pa_cons (pv 1) pa_nil)) (pa_cons (pv 3) (pa_cons pe_int pa_nil)))))) (nomark _))
        (pss_one (ps_ret pe_bl))
        pss_nil)))
      (pss_cons (ps_if (PW.pt (pw_or (pt_cmpR op_notBl (pe_cl c_is_run hr (by decide) (by rfl) (pa_cons (pv 10) (pa_cons (pe_op (opCatT (K := K) rfl) (pe_tup (pa_cons (pv 3) pa_nil)) (pe_cl c_run hr (by decide) (by rfl) (pa_cons (pv 1) pa_nil))) pa_nil))) pe_bl (nomark _)) (pw_or (pt_cmpR op_notBl (pe_cl c_is_retreat hr (by decide) (by rfl) (pa_cons (pv 10) (pa_cons (pe_cl c_retreat hr (by decide) (by rfl) (pa_cons (pv 1) pa_nil)) pa_nil))) pe_bl (nomark _)) (pw_or1 (pt_cmpR op_ne (pe_ix (ixT (K := K) rfl) (pe_cl c_gridlock_paper hr (by decide) (by rfl) (pa_cons (pv 10) pa_nil)) pe_int (fun _ _ => rfl)) (pe_ix (ixT (K := K) rfl) (pe_cl c_gridlock_paper hr (by decide) (by rfl) (pa_cons (pv 1) pa_nil)) pe_int (fun _ _ => rfl)) (nomark _))))))
        (pss_one (ps_ret pe_bl))
        pss_nil)
      (pss_one (ps_ret (pe_cl c__law_needs_right hr (by decide) (by rfl) (pa_cons (pv 0) (pa_cons (pv 1) (pa_cons (pv 10) (pa_cons (pv 2) (pa_cons (pv 3) (pa_cons pe_bl pa_nil))))))))))))))), ?_⟩
    have W := L.gq.well
    obtain ⟨b0, ha, ps, hb0, hpr⟩ := id hq
    have hlen : (ps.map V.ref).length = qs.length := by rw [List.length_map, paired_len hpr]
    have l40 := W.l40
    -- cash
    have wk := el_lcT (K := K) (te := tOp (rIxT K) (tVar 5) (tC (.int 1))) (t := tTest (tOp rEq (tOp (rIxT K) (tVar 5) (tC (.int 0))) (tVar 2))) (j := 5) (vs := [5]) (σ := [some (.ref a), some (.ref aq), some (.str r0.1), some (.str z), none, none, none, none, none, none, none, none]) (H := H) (fun i => decide ((qs.getD i rowD).1 = r0.1)) (fun i => V.int (qs.getD i rowD).2.1) (eq_ev (ev_houses (K := K) (ev_var (i := 1) rfl) ha) (st_of hb0)) (by rw [hlen]; omega) (fun _ => rfl)
      (fun i x H1 e1 hx => by
        obtain ⟨p, r, rfl, _, hqr, q', hrow, _⟩ := RowsH.at hpr hx
        rw [getD_of hqr]
        exact et_is (et_test (ev_eqV rfl (ev_op (ev_var (i := 5) rfl) ev_c (rv_ixT (st_of (e1 _ _ hrow)) (at_of (j := 0) rfl rfl))) (ev_var (i := 2) rfl))) (decide_eq_decide.mpr (by rw [V.str.injEq])))
      (fun i x H1 e1 hx _ => by
        obtain ⟨p, r, rfl, _, hqr, q', hrow, _⟩ := RowsH.at hpr hx
        rw [getD_of hqr]
        exact ev_op (ev_var (i := 5) rfl) ev_c (rv_ixT (st_of (e1 _ _ hrow)) (at_of (j := 1) rfl rfl)))
    rw [hlen, given_filter rowD (fun r : Row Str => decide (r.1 = r0.1)) (fun r => V.int r.2.1) qs, filter_one W.nd L.r0m] at wk
    refine q_asg (v := .int r0.2.1) (ev_ixNew (K := K) wk rfl) fun H1 e1 => ?_
    refine q_if (σ := [some (.ref a), some (.ref aq), some (.str r0.1), some (.str z), some (.int r0.2.1), none, none, none, none, none, none, none]) (b := decide (r0.2.1 = 0)) (et_test (ev_eqI (ev_var (i := 4) rfl) ev_c)) (fun _ H2 e2 => ?_) (fun hb H2 e2 => ?_)
    · exact s_ret ev_c fun H3 e3 => k H3 ((dr.mono (e1.trans (e2.trans e3))).up (by omega)) (ExD.of (e1.trans (e2.trans e3)))
    show tSeq _ _ _ _ _
    have v1 : 1 ≤ r0.2.1 := by
      have := of_decide_eq_false hb
      have := L.gq.c0 r0 L.r0m
      omega
    have e12 := e1.trans e2
    -- found
    refine q_asgEG (σ := [some (.ref a), some (.ref aq), some (.str r0.1), some (.str z), some (.int r0.2.1), none, none, none, none, none, none, none]) (el_lcG (te := tTup (tCons (tVar 7) (tCons (tIf (tTest (tOp rEq (tVar 7) (tVar 2))) (tC (.int 0)) (tVar 8)) (tCons (tVar 9) tNil)))) (g := gTup K 3 (gCons (gName 7) (gCons (gName 8) (gCons (gName 9) gNil)))) (tt := tYes) (vs := [7, 8, 9]) (ei_tup (K := K) (eq_ev (ev_houses (K := K) (ev_var (i := 1) rfl) (e12 _ _ ha)) (st_of (e12 _ _ hb0)))) (by rw [hlen]; omega) (fun _ => true)
      (fun i v H => ∃ p, v = .ref p ∧ RowH H p ((qs.getD i rowD).1, noCash r0.1 (qs.getD i rowD), (qs.getD i rowD).2.2)) (fun i v H1 H2 e ⟨p, hv, hp⟩ => ⟨p, hv, hp.tx e⟩) fun i x H3 H4 e3 hi hy => by
        obtain ⟨rfl, hx⟩ := hy
        obtain ⟨p, r, rfl, _, hqr, q', hrow, hpay⟩ := RowsH.at hpr hx
        refine ⟨Ex.refl _, _, fun R h => g_tup3 (i := 7) (j := 8) (l := 9) ((e12.trans e3) _ _ hrow) h, rfl, et_yes, fun _ => ?_⟩
        rw [getD_of hqr]
        refine (gv_tup3 (x := .str r.1) (y := .int (noCash r0.1 r)) (z := .ref q') (ev_var (i := 7) rfl) (ev_ifE (b := decide (r.1 = r0.1)) (et_is (et_test (ev_eqV rfl (ev_var (i := 7) rfl) (ev_var (i := 2) rfl))) (decide_eq_decide.mpr (by rw [V.str.injEq]))) (fun hb H5 _ => by
          unfold noCash
          rw [if_pos (of_decide_eq_true hb)]
          exact ev_c) fun hb H5 _ => by
          unfold noCash
          rw [if_neg (of_decide_eq_false hb)]
          exact ev_var (i := 8) rfl) (ev_var (i := 9) rfl)).imp fun v H5 e5 ⟨p2, hv, hp2⟩ => ⟨p2, hv, q', hp2, hpay.tx (TX.of (e12.trans (e3.trans e5)))⟩) fun fo rs H3 hf0 e3 hf hrows => ?_
    rw [idxs_all] at hrows
    obtain ⟨pf, rfl, hpf⟩ := refs_of (w := fun i => ((qs.getD i rowD).1, noCash r0.1 (qs.getD i rowD), (qs.getD i rowD).2.2)) hrows
    rw [hlen, map_range_getD rowD (fun r : Row Str => (r.1, noCash r0.1 r, r.2.2)) qs] at hpf
    have hpf : Paired (RowH H3) pf (mc (noCash r0.1) qs) := hpf
    have e13 := e12.trans e3
    have lmc : (mc (noCash r0.1) qs).length ≤ 40 := by
      unfold KQ.mc
      rw [List.length_map]
      exact l40
    -- other
    refine q_asgG (σ := [some (.ref a), some (.ref aq), some (.str r0.1), some (.str z), some (.int r0.2.1), none, some (.ref fo), none, none, none, none, none]) (gv_sortQ (K := K) (ers_told (ev_var (i := 6) rfl) hf hpf lmc (ev_var (i := 3) rfl) (ev_var (i := 4) rfl) (ev_var (i := 2) rfl) (ev_var (i := 4) rfl)) (L.toldNd v1)) fun v H4 e4 ⟨ab, B, hv, hB, asc, hqB⟩ => ?_
    subst hv
    have X := L.told v1 hB
    have GB := L.toldGood X asc
    have C := Told.cash X
    have e14 := e13.trans e4
    -- for work
    refine q_forRaw ?_
    refine ⟨by show 2 ≤ sizeLine; decide, fun wl hwl => ?_⟩
    have x5 : Ex H4 (upd H4 wl (.lst [.ref f_final_state, .ref f_greatest_feasible])) := Ex.new hwl
    have hwl5 : (upd H4 wl (.lst [.ref f_final_state, .ref f_greatest_feasible])) wl = some (.lst [.ref f_final_state, .ref f_greatest_feasible]) := upd_same
    generalize upd H4 wl (.lst [.ref f_final_state, .ref f_greatest_feasible]) = H5 at x5 hwl5 ⊢
    refine q_forL (K := K) (a := wl) (xs := [.ref f_final_state, .ref f_greatest_feasible]) (σ := [some (.ref a), some (.ref aq), some (.str r0.1), some (.str z), some (.int r0.2.1), none, some (.ref fo), none, none, none, some (.ref ab), none]) ev_c (sq_of hwl5)
      (fun i σ' H' => ∃ (y11 : Option V), σ' = [some (.ref a), some (.ref aq), some (.str r0.1), some (.str z), some (.int r0.2.1), none, some (.ref fo), none, none, none, some (.ref ab), y11] ∧ Ex H5 H')
      (fun H7 e7 => ⟨none, rfl, e7⟩) (fun i σ' H' _ hP => ?_) (fun i x σ' H' hx hP => ?_) (fun σ' H' hP => ?_)
    · obtain ⟨_, _, e⟩ := hP
      exact sq_of (e _ _ hwl5)
    · obtain ⟨y11, rfl, e7⟩ := hP
      have hq7 := hq.tx (TX.of (e14.trans (x5.trans e7)))
      have hB7 := hqB.tx (TX.of (x5.trans e7))
      have lap : ∀ (m : Bool) (fw : Addr), SWork f_final_state f_greatest_feasible fw = some (spWork m) → EvT (tTest (tOp (rNeD K) (tCallA 11 (SWork f_final_state f_greatest_feasible) (tCons (tVar 10) tNil)) (tCall spWithS [] E0 (tCons (tVar 1) (tCons (tVar 10) (tCons (tCallA 11 (SWork f_final_state f_greatest_feasible) (tCons (tVar 1) tNil)) (tCons (tVar 3) (tCons (tC (.int 1)) tNil)))))))) [some (.ref a), some (.ref aq), some (.str r0.1), some (.str z), some (.int r0.2.1), none, some (.ref fo), none, none, none, some (.ref ab), some (.ref fw)] H' false := fun m fw hS =>
        et_test (ev_neStG (K := K) (gv_work0 (m := m) (i := 11) rfl hS (ev_var (i := 10) rfl) hB7 GB) (gv_withG (k := 1) (ev_var (i := 1) rfl) (ev_var (i := 10) rfl) (gv_work0 (m := m) (i := 11) rfl hS (ev_var (i := 1) rfl) hq7 L.gq) (ev_var (i := 3) rfl) ev_c hq7 hB7 W.nd l40 GB.l40 (L.toldKin X asc).back) fun f1 f2 h1 ⟨f3, h3, e⟩ => by
          subst e
          exact h1.eq (X.opt C h3))
      match i, hx with
      | 0, hx =>
        cases hx
        exact s_when (b := false) (lap true f_final_state (by unfold SWork; rw [if_pos rfl]; rfl)) (fun z => by cases z) fun _ H8 e8 => ⟨_, rfl, e7.trans e8⟩
      | 1, hx =>
        cases hx
        exact s_when (b := false) (lap false f_greatest_feasible (by unfold SWork; rw [if_neg ne2, if_pos rfl]; rfl)) (fun z => by cases z) fun _ H8 e8 => ⟨_, rfl, e7.trans e8⟩
      | i + 2, hx => cases hx
    · obtain ⟨y11, rfl, e7⟩ := hP
      have e17 := e14.trans (x5.trans e7)
      have hq7 := hq.tx (TX.of e17)
      have hB7 := hqB.tx (TX.of (x5.trans e7))
      refine q_when (σ := [some (.ref a), some (.ref aq), some (.str r0.1), some (.str z), some (.int r0.2.1), none, some (.ref fo), none, none, none, some (.ref ab), y11]) (b := false) (et_is (et_or (et_test (ev_notTrue (ev_isRunG (ev_var (i := 10) rfl) ((gv_catRun (K := K) (R := fun f ws => KQ.Least qs (cashF qs) f ∧ KQ.Steps qs (cashF qs) (fun _ => 0) ws f) (ev_var (i := 3) rfl) ((gv_runN (ea_cons (ev_var (i := 1) rfl) ea_nil) hq7 L.gq).imp fun v H8 _ ⟨s, f, ws, h1, h2, h3, h4, h5⟩ => ⟨s, f, ws, h1, ⟨h2, h3⟩, h4, h5⟩)).imp fun v H8 _ ⟨p, f, ws, h1, ⟨h2, h3⟩, h4⟩ => ⟨p, ext z 1 f, z :: ws, h1, X.steps C h3, X.extS C h2.2, h4⟩) hB7 GB))) fun _ =>
        et_or (et_test (ev_notTrue (ev_isBackG (ev_var (i := 10) rfl) ((gv_backN (ea_cons (ev_var (i := 1) rfl) ea_nil) hq7 L.gq).imp fun v H8 _ ⟨s, f, ws, h1, h2, h3, h4⟩ => ⟨s, ext z 1 f, ws, h1, by rw [told_lenF X]; exact X.backs C h3, X.extFe C h2.2, h4⟩) hB7 GB))) fun _ =>
        et_test (ev_neWords (P1 := fun b => ∃ f g, b = flowB B f g ∧ KQ.Least B (cashF B) f ∧ KQ.Great B (cashF B) g) (P2 := fun b => ∃ f g, b = flowB qs f g ∧ KQ.Least qs (cashF qs) f ∧ KQ.Great qs (cashF qs) g) ((gv_gridW (K := K) (ea_cons (ev_var (i := 10) rfl) ea_nil) hB7 GB).imp fun v H8 _ ⟨f, g, h1, h2, h3⟩ => ⟨_, h1, f, g, rfl, h2, h3⟩) ((gv_gridW (K := K) (ea_cons (ev_var (i := 1) rfl) ea_nil) hq7 L.gq).imp fun v H8 _ ⟨f, g, h1, h2, h3⟩ => ⟨_, h1, f, g, rfl, h2, h3⟩) fun b c ⟨f1, g1, hb1, hf1, hg1⟩ ⟨f2, g2, hb2, hf2, hg2⟩ => by
          rw [hb1, hb2]
          exact told_flow X hf2 hg2 hf1 hg1)) rfl) (fun z => by cases z) (fun _ H8 e8 => ?_)
      have e18 := e17.trans e8
      show tCall spNeedsR [] E0 (tCons (tVar 0) (tCons (tVar 1) (tCons (tVar 10) (tCons (tVar 2) (tCons (tVar 3) (tCons (tC (.bl false)) tNil)))))) [some (.ref a), some (.ref aq), some (.str r0.1), some (.str z), some (.int r0.2.1), none, some (.ref fo), none, none, none, some (.ref ab), y11] H8 Q
      refine (ea_cons (ev_var (i := 0) rfl) (ea_cons (ev_var (i := 1) rfl) (ea_cons (ev_var (i := 10) rfl) (ea_cons (ev_var (i := 2) rfl) (ea_cons (ev_var (i := 3) rfl) (ea_cons ev_c ea_nil))))) : EvA _ [some (.ref a), some (.ref aq), some (.str r0.1), some (.str z), some (.int r0.2.1), none, some (.ref fo), none, none, none, some (.ref ab), y11] H8 [.ref a, .ref aq, .ref ab, .str r0.1, .str z, .bl false]) H8 (Ex.refl _) _ fun H9 e9 => ?_
      have e19 := e18.trans e9
      exact ⟨a, l, c, N, aq, ab, qs, B, r0.1, z, false, fun _ => 1, rfl, dr.mono e19, by omega, hq.tx (TX.of e19), hqB.tx (TX.of ((x5.trans e7).trans (e8.trans e9))), L.toldKin X asc, (fun z => by cases z), fun _ => rfl, L.l2, fun H16 d16 e16' => k H16 d16 ((ExD.of e19).trans e16')⟩
end
end NQ
namespace NQ
open PySem PySem.Spec PyProof.Rows L2 Evl
open KQ (Row)
def spLaw (K : PySem.W.Frag) : Sp := fun vs H Q _ => ∃ (s : Addr) (ns : List Int), vs = [.ref s] ∧ SqL K H s (ns.map V.int) ∧ ns.length ≤ 63 ∧ ∀ H', Q (.bl true) H'
section
variable {K : PySem.W.Frag} {σ : L2.St} {H H' : Hp} {ta tb tc te : TE} {tr : TA}
theorem el_back1 {zs : List Str} {p : Addr} (h : Ev te σ H (.ref p)) (hp : H p = some (.lst (zs.map V.str))) : EvL (tSl (rSlL K) te (tPart (tC (.int 1))) tNoPart) σ H ((zs.drop 1).map V.str) := by
  have := el_sl (K := K) (σ := σ) (H := H) (te := te) h (eo_some (ev_c (v := .int ((1 : Nat) : Int)))) eo_none (sq_of hp)
  rw [cut_back, ← List.map_drop] at this
  exact this
theorem ev_min2' {i j : Int} (ha : Ev ta σ H (.int i)) (hb : Ev tb σ H (.int j)) : Ev (tCB (fun xs H Q => ∃ i j, xs = [.int i, .int j] ∧ Q (.int (if j < i then j else i)) H) (tCons ta (tCons tb tNil))) σ H (.int (if j < i then j else i)) := fun H1 e Q q => ha H1 e _ fun H2 e2 => hb H2 (e.trans e2) _ fun H3 e3 => ⟨i, j, rfl, q H3 (e2.trans e3)⟩
end
section
variable {P : Program} {w : World} {K : PySem.W.Frag} {mg : Str → Option Value} {base : Heap} {f : Addr} {fd : FuncData} {aK : Addr} {tk : Tk}
theorem ok_law (F : Fun K "law" "law" s_law f fd) (T : Tx K mg aK tk) (c__law_begun : Cal P w K mg base CX0 1 "_law_begun" ["script"] (spBegun K)) (c__law_take : Cal P w K mg base CX0 2 "_law_take" ["draw", "many"] spTake) (c__law_pick : Cal P w K mg base CX0 3 "_law_pick" ["draw", "some"] spPick)
    (c__law_names : Cal P w K mg base CX0 4 "_law_names" ["draw", "many"] spNames) (c__law_lists : Cal P w K mg base CX0 4 "_law_lists" ["draw", "names", "most", "top"] spLists)
    (c__law_through_right : Cal P w K mg base CX0 8 "_law_through_right" ["draw", "queues", "house", "fresh"] spThrR) (c__law_told_right : Cal P w K mg base CX0 8 "_law_told_right" ["draw", "queues", "house", "fresh"] spThrR) : FnOk P w K mg base CX0 9 f fd ["script"] (spLaw K) := by
  refine F.ok sc_law (fun vs H Q E h => ?_) (fun cdv A outer sh H vs Q E hr h => ?_)
  · obtain ⟨s, ns, rfl, _⟩ := h
    rfl
  · obtain ⟨s, ns, rfl, hS, hlen, q⟩ := h
    have hu := hu_of hr
    refine ⟨_, (pss_cons (ps_set (i := 1) sc_law.nd rfl (Or.inl rfl) (pe_cl c__law_begun hr (by decide) (by rfl) (pa_cons (pv 0) pa_nil)))
      (pss_cons (ps_for PassesOwn.never rfl (pi_range1 (by rfl) T.range (pa_cons (pe_op op_add pe_int (pe_callB (call_min2 rfl) (by rfl) T.min (by decide +kernel) (pa_cons (pe_callB (crLen (K := K) rfl) (by rfl) T.len (by decide +kernel) (pa_cons (pv 0) pa_nil)) (pa_cons pe_int pa_nil)))) pa_nil)) (pg_name (i := 2) sc_law.nd rfl (Or.inl rfl))
        (pss_cons (ps_set (i := 3) sc_law.nd rfl (Or.inl rfl) (pe_cl c__law_names hr (by decide) (by rfl) (pa_cons (pv 1) (pa_cons (pe_op op_add pe_int (pe_cl c__law_take hr (by decide) (by rfl) (pa_cons (pv 1) (pa_cons pe_int pa_nil)))) pa_nil))))
      (pss_cons (ps_par (i := 4) (j := 5) (by rfl) sc_law.nd rfl rfl (by decide) rfl rfl (pa_cons (pe_ix (ixL (K := K) rfl) (pv 3) pe_int (fun _ _ => rfl)) (pa_cons (pe_cl c__law_lists hr (by decide) (by rfl) (pa_cons (pv 1) (pa_cons (pe_slice (slL (K := K) rfl) (pv 3) (po_some pe_int) po_none) (pa_cons pe_int (pa_cons pe_int pa_nil))))) pa_nil)) (by rfl))
      (pss_cons (ps_set (i := 6) sc_law.nd rfl (Or.inl rfl) (pe_cl c__law_pick hr (by decide) (by rfl) (pa_cons (pv 1) (pa_cons (pe_slice (slL (K := K) rfl) (pv 3) (po_some pe_int) po_none) pa_nil))))
      (pss_one (ps_if (PW.pt (pw_or (pt_not (pt_val (pe_cl c__law_through_right hr (by decide) (by rfl) (pa_cons (pv 1) (pa_cons (pv 5) (pa_cons (pv 6) (pa_cons (pv 4) pa_nil))))))) (pw_or1 (pt_not (pt_val (pe_cl c__law_told_right hr (by decide) (by rfl) (pa_cons (pv 1) (pa_cons (pv 5) (pa_cons (pv 6) (pa_cons (pv 4) pa_nil))))))))))
        (pss_one (ps_ret pe_bl))
        pss_nil))))))
      (pss_one (ps_ret pe_bl)))), ?_⟩
    refine ⟨.ref s, rfl, s, ns, rfl, hS, hlen, fun a l c H1 e1 d1 ha0 hl0 => ?_⟩
    have nsl : (ns.map V.int).length = ns.length := List.length_map ..
    refine q_forR1 (σ := [some (.ref s), some (.ref a), none, none, none, none, none]) (n := 1 + (if (3 : Int) < ((ns.map V.int).length : Int) then 3 else ((ns.map V.int).length : Int))) (ea_cons (ev_add ev_c (ev_min2' (ev_len (K := K) (ev_var (i := 0) rfl) (ex_l e1 hS)) ev_c)) ea_nil) (by split <;> omega)
      (fun i σ' H' => ∃ (y2 y3 y4 y5 y6 : Option V), σ' = [some (.ref s), some (.ref a), y2, y3, y4, y5, y6] ∧ Dr a l c (2000 * i) H')
      (fun H2 e2 => ⟨_, _, _, _, _, rfl, d1.mono e2⟩) (fun i σ' H2 hi hP => ?_) (fun σ' H2 hP => ?_)
    · obtain ⟨y2, y3, y4, y5, y6, rfl, d2⟩ := hP
      have hi4 : i < 4 := by
        split at hi <;> omega
      -- names
      refine ⟨.ref a, rfl, ?_⟩
      refine do_take (H := H2) (size := 3) (ea_cons (ev_var (i := 1) rfl) (ea_cons ev_c ea_nil)) d2 (by omega) (by decide) (by decide) (Ex.refl _) fun v H3 v0 v1 d3 e3 => ?_
      obtain ⟨m4, rfl⟩ := Int.eq_ofNat_of_zero_le v0
      refine ⟨4, (m4 : Int), rfl, rfl, ?_⟩
      refine ⟨a, l, c, _, 4 + m4, by rw [show ((4 + m4 : Nat) : Int) = (4 : Int) + (m4 : Int) by omega]; rfl, d3, by omega, by omega, fun nm zs H4 znd zg zl d4 e4 hnm0 hnm => ?_⟩
      have nnm := d3.fresh hnm0
      obtain ⟨z0, zr, rfl⟩ : ∃ z0 zr, zs = z0 :: zr := by
        cases zs with
        | nil => exact absurd zl (by show ¬ 0 = _; omega)
        | cons z0 zr => exact ⟨z0, zr, rfl⟩
      rw [List.length_cons] at zl
      have znd' := List.nodup_cons.mp znd
      -- fresh, queues
      refine ev_op (z := .str z0) (σ := [some (.ref s), some (.ref a), some (.int (i : Int)), some (.ref nm), y4, y5, y6]) (H := H4) (ev_var (i := 3) rfl) (ev_c (v := .int 0)) (rv_ixL (K := K) (sq_of hnm) (at_of (j := 0) rfl rfl)) H4 (Ex.refl _) _ fun H5 e5 => ?_
      refine do_lists (σ := [some (.ref s), some (.ref a), some (.int (i : Int)), some (.ref nm), y4, y5, y6]) (i := 1) (ns := zr) rfl (el_back1 (K := K) (zs := z0 :: zr) (ev_var (i := 3) rfl) (e5 _ _ hnm)) (d4.mono e5) (by omega) znd'.2 (fun z hz => zg z (List.mem_cons_of_mem _ hz)) (by omega) (by omega) fun p1 qs H6 g1 per1 b1 q1 d6 e6 => ?_
      refine ⟨_, _, rfl, ?_⟩
      have hnm6 := e6 _ _ (e5 _ _ hnm) nnm.1 nnm.2.1
      -- house
      refine do_pickL' (σ := [some (.ref s), some (.ref a), some (.int (i : Int)), some (.ref nm), some (.str z0), some (.ref p1), y6]) (i := 1) rfl (el_back1 (K := K) (zs := z0 :: zr) (ev_var (i := 3) rfl) hnm6) d6 (by omega) (by show 0 < (zr.map V.str).length; rw [List.length_map]; omega) (by show (zr.map V.str).length < 100000; rw [List.length_map]; omega) fun vh H7 hvh d7 e7 => ?_
      obtain ⟨house, hhz, rfl⟩ := List.mem_map.mp hvh
      have hhz : house ∈ zr := hhz
      obtain ⟨r0, hr0, rfl⟩ := mem_name (per1.mem_iff.mpr hhz)
      have hql : qs.length = zr.length := by
        have := per1.length_eq
        rw [List.length_map] at this
        exact this
      have LG : LapG qs r0 z0 := ⟨g1, by omega, by omega, b1, hr0, zg z0 List.mem_cons_self, fun h => znd'.1 (per1.mem_iff.mp h)⟩
      have q7 : QH H7 p1 qs := q1.tx (d6.tx e7)
      show tCall spThrR [] E0 (tCons (tVar 1) (tCons (tVar 5) (tCons (tVar 6) (tCons (tVar 4) tNil)))) [some (.ref s), some (.ref a), some (.int (i : Int)), some (.ref nm), some (.str z0), some (.ref p1), some (.str r0.1)] H7 _
      refine (ea_cons (ev_var (i := 1) rfl) (ea_cons (ev_var (i := 5) rfl) (ea_cons (ev_var (i := 6) rfl) (ea_cons (ev_var (i := 4) rfl) ea_nil))) : EvA _ [some (.ref s), some (.ref a), some (.int (i : Int)), some (.ref nm), some (.str z0), some (.ref p1), some (.str r0.1)] H7 [.ref a, .ref p1, .str r0.1, .str z0]) H7 (Ex.refl _) _ fun H8 e8 => ?_
      refine ⟨a, l, c, _, p1, qs, r0, z0, rfl, d7.mono e8, by omega, q7.tx (TX.of e8), LG, fun H9 d9 e9 => ⟨true, rfl, ?_⟩⟩
      have q9 : QH H9 p1 qs := q7.tx (d7.tx ((ExD.of e8).trans e9))
      dsimp only
      rw [if_neg (by decide)]
      show tCall spThrR [] E0 (tCons (tVar 1) (tCons (tVar 5) (tCons (tVar 6) (tCons (tVar 4) tNil)))) [some (.ref s), some (.ref a), some (.int (i : Int)), some (.ref nm), some (.str z0), some (.ref p1), some (.str r0.1)] H9 _
      refine (ea_cons (ev_var (i := 1) rfl) (ea_cons (ev_var (i := 5) rfl) (ea_cons (ev_var (i := 6) rfl) (ea_cons (ev_var (i := 4) rfl) ea_nil))) : EvA _ [some (.ref s), some (.ref a), some (.int (i : Int)), some (.ref nm), some (.str z0), some (.ref p1), some (.str r0.1)] H9 [.ref a, .ref p1, .str r0.1, .str z0]) H9 (Ex.refl _) _ fun H10 e10 => ?_
      refine ⟨a, l, c, _, p1, qs, r0, z0, rfl, d9.mono e10, by omega, q9.tx (TX.of e10), LG, fun H11 d11 e11 => ⟨true, rfl, ?_⟩⟩
      dsimp only
      rw [if_neg (by decide)]
      exact ⟨_, _, _, _, _, rfl, d11.up (by omega)⟩
    · obtain ⟨y2, y3, y4, y5, y6, rfl, d2⟩ := hP
      exact s_ret ev_c fun H3 e3 => q H3
end
end NQ
namespace NQ
open PySem PySem.Spec PyProof.Rows L2 Evl
theorem fn_ne {K : PySem.W.Frag} {f g : Addr} {oc oc' : Value} {od od' : Option Addr} {sl sl' : Array (Option Value)} {fd fd' : FuncData} (l : K.lookup f = some ⟨oc, od, .func fd, sl⟩) (l' : K.lookup g = some ⟨oc', od', .func fd', sl'⟩) (h : fd.name ≠ fd'.name) : f ≠ g := fun e => by
  subst e
  rw [l] at l'
  cases l'
  exact h rfl
theorem held_of {P : Program} {w : World} {K : PySem.W.Frag} {mg : Str → Option Value} {base : Heap} {k : Nat} {x : Str} {ps : List Str} {sp : Sp} {f : Addr} (c : Cal P w K mg base CX0 k x ps sp) (g : mg x = some (.ref f)) : Held P w K mg base k f sp := by
  obtain ⟨f', fd, F, hm, kp, b⟩ := c.ex
  rw [g] at hm
  cases hm
  exact ⟨fd, ps, F, kp, b⟩
theorem all_mk {l : PySem.W.OpenLaw} {w : World} {K : PySem.W.Frag} {h : Heap} {mg : Str → Option Value} {fa aK : Addr} (X : K.In h) (G : h.Ns mainGlobals mg) (hfa : mg "law" = some (.ref fa))
    {f0 : Addr} {od0 an0 : Option Addr} {sl0 : Array (Option Value)} {oc0 kV0 dc0 pm0 ct0 cd0 : Value}
    {f1 : Addr} {od1 an1 : Option Addr} {sl1 : Array (Option Value)} {oc1 kV1 dc1 pm1 ct1 cd1 : Value}
    {f2 : Addr} {od2 an2 : Option Addr} {sl2 : Array (Option Value)} {oc2 kV2 dc2 pm2 ct2 cd2 : Value}
    {f3 : Addr} {od3 an3 : Option Addr} {sl3 : Array (Option Value)} {oc3 kV3 dc3 pm3 ct3 cd3 : Value}
    {f4 : Addr} {od4 an4 : Option Addr} {sl4 : Array (Option Value)} {oc4 kV4 dc4 pm4 ct4 cd4 : Value}
    {f5 : Addr} {od5 an5 : Option Addr} {sl5 : Array (Option Value)} {oc5 kV5 dc5 pm5 ct5 cd5 : Value}
    {f6 : Addr} {od6 an6 : Option Addr} {sl6 : Array (Option Value)} {oc6 kV6 dc6 pm6 ct6 cd6 : Value}
    {f7 : Addr} {od7 an7 : Option Addr} {sl7 : Array (Option Value)} {oc7 kV7 dc7 pm7 ct7 cd7 : Value}
    {f8 : Addr} {od8 an8 : Option Addr} {sl8 : Array (Option Value)} {oc8 kV8 dc8 pm8 ct8 cd8 : Value}
    {f9 : Addr} {od9 an9 : Option Addr} {sl9 : Array (Option Value)} {oc9 kV9 dc9 pm9 ct9 cd9 : Value}
    {f10 : Addr} {od10 an10 : Option Addr} {sl10 : Array (Option Value)} {oc10 kV10 dc10 pm10 ct10 cd10 : Value}
    {f11 : Addr} {od11 an11 : Option Addr} {sl11 : Array (Option Value)} {oc11 kV11 dc11 pm11 ct11 cd11 : Value}
    {f12 : Addr} {od12 an12 : Option Addr} {sl12 : Array (Option Value)} {oc12 kV12 dc12 pm12 ct12 cd12 : Value}
    {f13 : Addr} {od13 an13 : Option Addr} {sl13 : Array (Option Value)} {oc13 kV13 dc13 pm13 ct13 cd13 : Value}
    {f14 : Addr} {od14 an14 : Option Addr} {sl14 : Array (Option Value)} {oc14 kV14 dc14 pm14 ct14 cd14 : Value}
    {f15 : Addr} {od15 an15 : Option Addr} {sl15 : Array (Option Value)} {oc15 kV15 dc15 pm15 ct15 cd15 : Value}
    {f16 : Addr} {od16 an16 : Option Addr} {sl16 : Array (Option Value)} {oc16 kV16 dc16 pm16 ct16 cd16 : Value}
    {f17 : Addr} {od17 an17 : Option Addr} {sl17 : Array (Option Value)} {oc17 kV17 dc17 pm17 ct17 cd17 : Value}
    {f18 : Addr} {od18 an18 : Option Addr} {sl18 : Array (Option Value)} {oc18 kV18 dc18 pm18 ct18 cd18 : Value}
    {f19 : Addr} {od19 an19 : Option Addr} {sl19 : Array (Option Value)} {oc19 kV19 dc19 pm19 ct19 cd19 : Value}
    {f20 : Addr} {od20 an20 : Option Addr} {sl20 : Array (Option Value)} {oc20 kV20 dc20 pm20 ct20 cd20 : Value}
    {f21 : Addr} {od21 an21 : Option Addr} {sl21 : Array (Option Value)} {oc21 kV21 dc21 pm21 ct21 cd21 : Value}
    {f22 : Addr} {od22 an22 : Option Addr} {sl22 : Array (Option Value)} {oc22 kV22 dc22 pm22 ct22 cd22 : Value}
    {f23 : Addr} {od23 an23 : Option Addr} {sl23 : Array (Option Value)} {oc23 kV23 dc23 pm23 ct23 cd23 : Value}
    {f24 : Addr} {od24 an24 : Option Addr} {sl24 : Array (Option Value)} {oc24 kV24 dc24 pm24 ct24 cd24 : Value}
    {f25 : Addr} {od25 an25 : Option Addr} {sl25 : Array (Option Value)} {oc25 kV25 dc25 pm25 ct25 cd25 : Value}
    {f26 : Addr} {od26 an26 : Option Addr} {sl26 : Array (Option Value)} {oc26 kV26 dc26 pm26 ct26 cd26 : Value}
    {f27 : Addr} {od27 an27 : Option Addr} {sl27 : Array (Option Value)} {oc27 kV27 dc27 pm27 ct27 cd27 : Value}
    {f28 : Addr} {od28 an28 : Option Addr} {sl28 : Array (Option Value)} {oc28 kV28 dc28 pm28 ct28 cd28 : Value}
    {f29 : Addr} {od29 an29 : Option Addr} {sl29 : Array (Option Value)} {oc29 kV29 dc29 pm29 ct29 cd29 : Value}
    {f30 : Addr} {od30 an30 : Option Addr} {sl30 : Array (Option Value)} {oc30 kV30 dc30 pm30 ct30 cd30 : Value}
    {f31 : Addr} {od31 an31 : Option Addr} {sl31 : Array (Option Value)} {oc31 kV31 dc31 pm31 ct31 cd31 : Value}
    {f32 : Addr} {od32 an32 : Option Addr} {sl32 : Array (Option Value)} {oc32 kV32 dc32 pm32 ct32 cd32 : Value}
    {f33 : Addr} {od33 an33 : Option Addr} {sl33 : Array (Option Value)} {oc33 kV33 dc33 pm33 ct33 cd33 : Value}
    {f34 : Addr} {od34 an34 : Option Addr} {sl34 : Array (Option Value)} {oc34 kV34 dc34 pm34 ct34 cd34 : Value}
    {f35 : Addr} {od35 an35 : Option Addr} {sl35 : Array (Option Value)} {oc35 kV35 dc35 pm35 ct35 cd35 : Value}
    {f36 : Addr} {od36 an36 : Option Addr} {sl36 : Array (Option Value)} {oc36 kV36 dc36 pm36 ct36 cd36 : Value}
    {f37 : Addr} {od37 an37 : Option Addr} {sl37 : Array (Option Value)} {oc37 kV37 dc37 pm37 ct37 cd37 : Value}
    {f38 : Addr} {od38 an38 : Option Addr} {sl38 : Array (Option Value)} {oc38 kV38 dc38 pm38 ct38 cd38 : Value}
    {f39 : Addr} {od39 an39 : Option Addr} {sl39 : Array (Option Value)} {oc39 kV39 dc39 pm39 ct39 cd39 : Value}
    {f40 : Addr} {od40 an40 : Option Addr} {sl40 : Array (Option Value)} {oc40 kV40 dc40 pm40 ct40 cd40 : Value}
    {f41 : Addr} {od41 an41 : Option Addr} {sl41 : Array (Option Value)} {oc41 kV41 dc41 pm41 ct41 cd41 : Value}
    {f42 : Addr} {od42 an42 : Option Addr} {sl42 : Array (Option Value)} {oc42 kV42 dc42 pm42 ct42 cd42 : Value}
    {f43 : Addr} {od43 an43 : Option Addr} {sl43 : Array (Option Value)} {oc43 kV43 dc43 pm43 ct43 cd43 : Value}
    {f44 : Addr} {od44 an44 : Option Addr} {sl44 : Array (Option Value)} {oc44 kV44 dc44 pm44 ct44 cd44 : Value}
    {f45 : Addr} {od45 an45 : Option Addr} {sl45 : Array (Option Value)} {oc45 kV45 dc45 pm45 ct45 cd45 : Value}
    {f46 : Addr} {od46 an46 : Option Addr} {sl46 : Array (Option Value)} {oc46 kV46 dc46 pm46 ct46 cd46 : Value}
    {f47 : Addr} {od47 an47 : Option Addr} {sl47 : Array (Option Value)} {oc47 kV47 dc47 pm47 ct47 cd47 : Value}
    {f48 : Addr} {od48 an48 : Option Addr} {sl48 : Array (Option Value)} {oc48 kV48 dc48 pm48 ct48 cd48 : Value}
    {f49 : Addr} {od49 an49 : Option Addr} {sl49 : Array (Option Value)} {oc49 kV49 dc49 pm49 ct49 cd49 : Value}
    {f50 : Addr} {od50 an50 : Option Addr} {sl50 : Array (Option Value)} {oc50 kV50 dc50 pm50 ct50 cd50 : Value}
    {f51 : Addr} {od51 an51 : Option Addr} {sl51 : Array (Option Value)} {oc51 kV51 dc51 pm51 ct51 cd51 : Value}
    {f52 : Addr} {od52 an52 : Option Addr} {sl52 : Array (Option Value)} {oc52 kV52 dc52 pm52 ct52 cd52 : Value}
    {f53 : Addr} {od53 an53 : Option Addr} {sl53 : Array (Option Value)} {oc53 kV53 dc53 pm53 ct53 cd53 : Value}
    {f54 : Addr} {od54 an54 : Option Addr} {sl54 : Array (Option Value)} {oc54 kV54 dc54 pm54 ct54 cd54 : Value}
    {f55 : Addr} {od55 an55 : Option Addr} {sl55 : Array (Option Value)} {oc55 kV55 dc55 pm55 ct55 cd55 : Value}
    {f56 : Addr} {od56 an56 : Option Addr} {sl56 : Array (Option Value)} {oc56 kV56 dc56 pm56 ct56 cd56 : Value}
    {dK : Option Addr} {itsK : Array Value} {nK : Nat} {slK : Array (Option Value)} {tl th tp tc tm : Tok}
    (a0 : PySem.W.nsIn K mainGlobals "is_name" = some (some (.ref f0))) (l0 : K.lookup f0 = some ⟨oc0, od0, .func (PySem.W.fnOf "is_name" "is_name" (defArgs s_is_name) (defBody s_is_name) (defScope s_is_name) .none kV0 dc0 pm0 an0 cd0 ct0), sl0⟩) (c0 : PySem.W.codeIn K cd0 "is_name" = true) (k0 : PySem.W.keepIn K (.ref f0) = true)
    (a1 : PySem.W.nsIn K mainGlobals "is_integer" = some (some (.ref f1))) (l1 : K.lookup f1 = some ⟨oc1, od1, .func (PySem.W.fnOf "is_integer" "is_integer" (defArgs s_is_integer) (defBody s_is_integer) (defScope s_is_integer) .none kV1 dc1 pm1 an1 cd1 ct1), sl1⟩) (c1 : PySem.W.codeIn K cd1 "is_integer" = true) (k1 : PySem.W.keepIn K (.ref f1) = true)
    (a2 : PySem.W.nsIn K mainGlobals "are_payments" = some (some (.ref f2))) (l2 : K.lookup f2 = some ⟨oc2, od2, .func (PySem.W.fnOf "are_payments" "are_payments" (defArgs s_are_payments) (defBody s_are_payments) (defScope s_are_payments) .none kV2 dc2 pm2 an2 cd2 ct2), sl2⟩) (c2 : PySem.W.codeIn K cd2 "are_payments" = true) (k2 : PySem.W.keepIn K (.ref f2) = true)
    (a3 : PySem.W.nsIn K mainGlobals "is_house_row" = some (some (.ref f3))) (l3 : K.lookup f3 = some ⟨oc3, od3, .func (PySem.W.fnOf "is_house_row" "is_house_row" (defArgs s_is_house_row) (defBody s_is_house_row) (defScope s_is_house_row) .none kV3 dc3 pm3 an3 cd3 ct3), sl3⟩) (c3 : PySem.W.codeIn K cd3 "is_house_row" = true) (k3 : PySem.W.keepIn K (.ref f3) = true)
    (a4 : PySem.W.nsIn K mainGlobals "is_queues" = some (some (.ref f4))) (l4 : K.lookup f4 = some ⟨oc4, od4, .func (PySem.W.fnOf "is_queues" "is_queues" (defArgs s_is_queues) (defBody s_is_queues) (defScope s_is_queues) .none kV4 dc4 pm4 an4 cd4 ct4), sl4⟩) (c4 : PySem.W.codeIn K cd4 "is_queues" = true) (k4 : PySem.W.keepIn K (.ref f4) = true)
    (a5 : PySem.W.nsIn K mainGlobals "check_queues" = some (some (.ref f5))) (l5 : K.lookup f5 = some ⟨oc5, od5, .func (PySem.W.fnOf "check_queues" "check_queues" (defArgs s_check_queues) (defBody s_check_queues) (defScope s_check_queues) .none kV5 dc5 pm5 an5 cd5 ct5), sl5⟩) (c5 : PySem.W.codeIn K cd5 "check_queues" = true) (k5 : PySem.W.keepIn K (.ref f5) = true)
    (a6 : PySem.W.nsIn K mainGlobals "is_state_of" = some (some (.ref f6))) (l6 : K.lookup f6 = some ⟨oc6, od6, .func (PySem.W.fnOf "is_state_of" "is_state_of" (defArgs s_is_state_of) (defBody s_is_state_of) (defScope s_is_state_of) .none kV6 dc6 pm6 an6 cd6 ct6), sl6⟩) (c6 : PySem.W.codeIn K cd6 "is_state_of" = true) (k6 : PySem.W.keepIn K (.ref f6) = true)
    (a7 : PySem.W.nsIn K mainGlobals "check_state" = some (some (.ref f7))) (l7 : K.lookup f7 = some ⟨oc7, od7, .func (PySem.W.fnOf "check_state" "check_state" (defArgs s_check_state) (defBody s_check_state) (defScope s_check_state) .none kV7 dc7 pm7 an7 cd7 ct7), sl7⟩) (c7 : PySem.W.codeIn K cd7 "check_state" = true) (k7 : PySem.W.keepIn K (.ref f7) = true)
    (a8 : PySem.W.nsIn K mainGlobals "number_of" = some (some (.ref f8))) (l8 : K.lookup f8 = some ⟨oc8, od8, .func (PySem.W.fnOf "number_of" "number_of" (defArgs s_number_of) (defBody s_number_of) (defScope s_number_of) .none kV8 dc8 pm8 an8 cd8 ct8), sl8⟩) (c8 : PySem.W.codeIn K cd8 "number_of" = true) (k8 : PySem.W.keepIn K (.ref f8) = true)
    (a9 : PySem.W.nsIn K mainGlobals "rich" = some (some (.ref f9))) (l9 : K.lookup f9 = some ⟨oc9, od9, .func (PySem.W.fnOf "rich" "rich" (defArgs s_rich) (defBody s_rich) (defScope s_rich) .none kV9 dc9 pm9 an9 cd9 ct9), sl9⟩) (c9 : PySem.W.codeIn K cd9 "rich" = true) (k9 : PySem.W.keepIn K (.ref f9) = true)
    (a10 : PySem.W.nsIn K mainGlobals "end_of_all" = some (some (.ref f10))) (l10 : K.lookup f10 = some ⟨oc10, od10, .func (PySem.W.fnOf "end_of_all" "end_of_all" (defArgs s_end_of_all) (defBody s_end_of_all) (defScope s_end_of_all) .none kV10 dc10 pm10 an10 cd10 ct10), sl10⟩) (c10 : PySem.W.codeIn K cd10 "end_of_all" = true) (k10 : PySem.W.keepIn K (.ref f10) = true)
    (a11 : PySem.W.nsIn K mainGlobals "is_within" = some (some (.ref f11))) (l11 : K.lookup f11 = some ⟨oc11, od11, .func (PySem.W.fnOf "is_within" "is_within" (defArgs s_is_within) (defBody s_is_within) (defScope s_is_within) .none kV11 dc11 pm11 an11 cd11 ct11), sl11⟩) (c11 : PySem.W.codeIn K cd11 "is_within" = true) (k11 : PySem.W.keepIn K (.ref f11) = true)
    (a12 : PySem.W.nsIn K mainGlobals "pays_next" = some (some (.ref f12))) (l12 : K.lookup f12 = some ⟨oc12, od12, .func (PySem.W.fnOf "pays_next" "pays_next" (defArgs s_pays_next) (defBody s_pays_next) (defScope s_pays_next) .none kV12 dc12 pm12 an12 cd12 ct12), sl12⟩) (c12 : PySem.W.codeIn K cd12 "pays_next" = true) (k12 : PySem.W.keepIn K (.ref f12) = true)
    (a13 : PySem.W.nsIn K mainGlobals "takes_back" = some (some (.ref f13))) (l13 : K.lookup f13 = some ⟨oc13, od13, .func (PySem.W.fnOf "takes_back" "takes_back" (defArgs s_takes_back) (defBody s_takes_back) (defScope s_takes_back) .none kV13 dc13 pm13 an13 cd13 ct13), sl13⟩) (c13 : PySem.W.codeIn K cd13 "takes_back" = true) (k13 : PySem.W.keepIn K (.ref f13) = true)
    (a14 : PySem.W.nsIn K mainGlobals "paying" = some (some (.ref f14))) (l14 : K.lookup f14 = some ⟨oc14, od14, .func (PySem.W.fnOf "paying" "paying" (defArgs s_paying) (defBody s_paying) (defScope s_paying) .none kV14 dc14 pm14 an14 cd14 ct14), sl14⟩) (c14 : PySem.W.codeIn K cd14 "paying" = true) (k14 : PySem.W.keepIn K (.ref f14) = true)
    (a15 : PySem.W.nsIn K mainGlobals "balance_list" = some (some (.ref f15))) (l15 : K.lookup f15 = some ⟨oc15, od15, .func (PySem.W.fnOf "balance_list" "balance_list" (defArgs s_balance_list) (defBody s_balance_list) (defScope s_balance_list) .none kV15 dc15 pm15 an15 cd15 ct15), sl15⟩) (c15 : PySem.W.codeIn K cd15 "balance_list" = true) (k15 : PySem.W.keepIn K (.ref f15) = true)
    (a16 : PySem.W.nsIn K mainGlobals "retreat_walk" = some (some (.ref f16))) (l16 : K.lookup f16 = some ⟨oc16, od16, .func (PySem.W.fnOf "retreat_walk" "retreat_walk" (defArgs s_retreat_walk) (defBody s_retreat_walk) (defScope s_retreat_walk) .none kV16 dc16 pm16 an16 cd16 ct16), sl16⟩) (c16 : PySem.W.codeIn K cd16 "retreat_walk" = true) (k16 : PySem.W.keepIn K (.ref f16) = true)
    (a17 : PySem.W.nsIn K mainGlobals "greatest_feasible" = some (some (.ref f17))) (l17 : K.lookup f17 = some ⟨oc17, od17, .func (PySem.W.fnOf "greatest_feasible" "greatest_feasible" (defArgs s_greatest_feasible) (defBody s_greatest_feasible) (defScope s_greatest_feasible) .none kV17 dc17 pm17 an17 cd17 ct17), sl17⟩) (c17 : PySem.W.codeIn K cd17 "greatest_feasible" = true) (k17 : PySem.W.keepIn K (.ref f17) = true)
    (a18 : PySem.W.nsIn K mainGlobals "run_walk" = some (some (.ref f18))) (l18 : K.lookup f18 = some ⟨oc18, od18, .func (PySem.W.fnOf "run_walk" "run_walk" (defArgs s_run_walk) (defBody s_run_walk) (defScope s_run_walk) .none kV18 dc18 pm18 an18 cd18 ct18), sl18⟩) (c18 : PySem.W.codeIn K cd18 "run_walk" = true) (k18 : PySem.W.keepIn K (.ref f18) = true)
    (a19 : PySem.W.nsIn K mainGlobals "final_state" = some (some (.ref f19))) (l19 : K.lookup f19 = some ⟨oc19, od19, .func (PySem.W.fnOf "final_state" "final_state" (defArgs s_final_state) (defBody s_final_state) (defScope s_final_state) .none kV19 dc19 pm19 an19 cd19 ct19), sl19⟩) (c19 : PySem.W.codeIn K cd19 "final_state" = true) (k19 : PySem.W.keepIn K (.ref f19) = true)
    (a20 : PySem.W.nsIn K mainGlobals "gridlock_paper" = some (some (.ref f20))) (l20 : K.lookup f20 = some ⟨oc20, od20, .func (PySem.W.fnOf "gridlock_paper" "gridlock_paper" (defArgs s_gridlock_paper) (defBody s_gridlock_paper) (defScope s_gridlock_paper) .none kV20 dc20 pm20 an20 cd20 ct20), sl20⟩) (c20 : PySem.W.codeIn K cd20 "gridlock_paper" = true) (k20 : PySem.W.keepIn K (.ref f20) = true)
    (a21 : PySem.W.nsIn K mainGlobals "check_house" = some (some (.ref f21))) (l21 : K.lookup f21 = some ⟨oc21, od21, .func (PySem.W.fnOf "check_house" "check_house" (defArgs s_check_house) (defBody s_check_house) (defScope s_check_house) .none kV21 dc21 pm21 an21 cd21 ct21), sl21⟩) (c21 : PySem.W.codeIn K cd21 "check_house" = true) (k21 : PySem.W.keepIn K (.ref f21) = true)
    (a22 : PySem.W.nsIn K mainGlobals "needed" = some (some (.ref f22))) (l22 : K.lookup f22 = some ⟨oc22, od22, .func (PySem.W.fnOf "needed" "needed" (defArgs s_needed) (defBody s_needed) (defScope s_needed) .none kV22 dc22 pm22 an22 cd22 ct22), sl22⟩) (c22 : PySem.W.codeIn K cd22 "needed" = true) (k22 : PySem.W.keepIn K (.ref f22) = true)
    (a23 : PySem.W.nsIn K mainGlobals "needed_cash" = some (some (.ref f23))) (l23 : K.lookup f23 = some ⟨oc23, od23, .func (PySem.W.fnOf "needed_cash" "needed_cash" (defArgs s_needed_cash) (defBody s_needed_cash) (defScope s_needed_cash) .none kV23 dc23 pm23 an23 cd23 ct23), sl23⟩) (c23 : PySem.W.codeIn K cd23 "needed_cash" = true) (k23 : PySem.W.keepIn K (.ref f23) = true)
    (a24 : PySem.W.nsIn K mainGlobals "payers" = some (some (.ref f24))) (l24 : K.lookup f24 = some ⟨oc24, od24, .func (PySem.W.fnOf "payers" "payers" (defArgs s_payers) (defBody s_payers) (defScope s_payers) .none kV24 dc24 pm24 an24 cd24 ct24), sl24⟩) (c24 : PySem.W.codeIn K cd24 "payers" = true) (k24 : PySem.W.keepIn K (.ref f24) = true)
    (a25 : PySem.W.nsIn K mainGlobals "walked_to" = some (some (.ref f25))) (l25 : K.lookup f25 = some ⟨oc25, od25, .func (PySem.W.fnOf "walked_to" "walked_to" (defArgs s_walked_to) (defBody s_walked_to) (defScope s_walked_to) .none kV25 dc25 pm25 an25 cd25 ct25), sl25⟩) (c25 : PySem.W.codeIn K cd25 "walked_to" = true) (k25 : PySem.W.keepIn K (.ref f25) = true)
    (a26 : PySem.W.nsIn K mainGlobals "run_end" = some (some (.ref f26))) (l26 : K.lookup f26 = some ⟨oc26, od26, .func (PySem.W.fnOf "run_end" "run_end" (defArgs s_run_end) (defBody s_run_end) (defScope s_run_end) .none kV26 dc26 pm26 an26 cd26 ct26), sl26⟩) (c26 : PySem.W.codeIn K cd26 "run_end" = true) (k26 : PySem.W.keepIn K (.ref f26) = true)
    (a27 : PySem.W.nsIn K mainGlobals "run" = some (some (.ref f27))) (l27 : K.lookup f27 = some ⟨oc27, od27, .func (PySem.W.fnOf "run" "run" (defArgs s_run) (defBody s_run) (defScope s_run) .none kV27 dc27 pm27 an27 cd27 ct27), sl27⟩) (c27 : PySem.W.codeIn K cd27 "run" = true) (k27 : PySem.W.keepIn K (.ref f27) = true)
    (a28 : PySem.W.nsIn K mainGlobals "retreat" = some (some (.ref f28))) (l28 : K.lookup f28 = some ⟨oc28, od28, .func (PySem.W.fnOf "retreat" "retreat" (defArgs s_retreat) (defBody s_retreat) (defScope s_retreat) .none kV28 dc28 pm28 an28 cd28 ct28), sl28⟩) (c28 : PySem.W.codeIn K cd28 "retreat" = true) (k28 : PySem.W.keepIn K (.ref f28) = true)
    (a29 : PySem.W.nsIn K mainGlobals "is_run" = some (some (.ref f29))) (l29 : K.lookup f29 = some ⟨oc29, od29, .func (PySem.W.fnOf "is_run" "is_run" (defArgs s_is_run) (defBody s_is_run) (defScope s_is_run) .none kV29 dc29 pm29 an29 cd29 ct29), sl29⟩) (c29 : PySem.W.codeIn K cd29 "is_run" = true) (k29 : PySem.W.keepIn K (.ref f29) = true)
    (a30 : PySem.W.nsIn K mainGlobals "back_end" = some (some (.ref f30))) (l30 : K.lookup f30 = some ⟨oc30, od30, .func (PySem.W.fnOf "back_end" "back_end" (defArgs s_back_end) (defBody s_back_end) (defScope s_back_end) .none kV30 dc30 pm30 an30 cd30 ct30), sl30⟩) (c30 : PySem.W.codeIn K cd30 "back_end" = true) (k30 : PySem.W.keepIn K (.ref f30) = true)
    (a31 : PySem.W.nsIn K mainGlobals "is_retreat" = some (some (.ref f31))) (l31 : K.lookup f31 = some ⟨oc31, od31, .func (PySem.W.fnOf "is_retreat" "is_retreat" (defArgs s_is_retreat) (defBody s_is_retreat) (defScope s_is_retreat) .none kV31 dc31 pm31 an31 cd31 ct31), sl31⟩) (c31 : PySem.W.codeIn K cd31 "is_retreat" = true) (k31 : PySem.W.keepIn K (.ref f31) = true)
    (a32 : PySem.W.nsIn K mainGlobals "sum_of_all" = some (some (.ref f32))) (l32 : K.lookup f32 = some ⟨oc32, od32, .func (PySem.W.fnOf "sum_of_all" "sum_of_all" (defArgs s_sum_of_all) (defBody s_sum_of_all) (defScope s_sum_of_all) .none kV32 dc32 pm32 an32 cd32 ct32), sl32⟩) (c32 : PySem.W.codeIn K cd32 "sum_of_all" = true) (k32 : PySem.W.keepIn K (.ref f32) = true)
    (a33 : PySem.W.nsIn K mainGlobals "lack" = some (some (.ref f33))) (l33 : K.lookup f33 = some ⟨oc33, od33, .func (PySem.W.fnOf "lack" "lack" (defArgs s_lack) (defBody s_lack) (defScope s_lack) .none kV33 dc33 pm33 an33 cd33 ct33), sl33⟩) (c33 : PySem.W.codeIn K cd33 "lack" = true) (k33 : PySem.W.keepIn K (.ref f33) = true)
    (a34 : PySem.W.nsIn K mainGlobals "check_two" = some (some (.ref f34))) (l34 : K.lookup f34 = some ⟨oc34, od34, .func (PySem.W.fnOf "check_two" "check_two" (defArgs s_check_two) (defBody s_check_two) (defScope s_check_two) .none kV34 dc34 pm34 an34 cd34 ct34), sl34⟩) (c34 : PySem.W.codeIn K cd34 "check_two" = true) (k34 : PySem.W.keepIn K (.ref f34) = true)
    (a35 : PySem.W.nsIn K mainGlobals "pairs_of" = some (some (.ref f35))) (l35 : K.lookup f35 = some ⟨oc35, od35, .func (PySem.W.fnOf "pairs_of" "pairs_of" (defArgs s_pairs_of) (defBody s_pairs_of) (defScope s_pairs_of) .none kV35 dc35 pm35 an35 cd35 ct35), sl35⟩) (c35 : PySem.W.codeIn K cd35 "pairs_of" = true) (k35 : PySem.W.keepIn K (.ref f35) = true)
    (a36 : PySem.W.nsIn K mainGlobals "needed_stairs" = some (some (.ref f36))) (l36 : K.lookup f36 = some ⟨oc36, od36, .func (PySem.W.fnOf "needed_stairs" "needed_stairs" (defArgs s_needed_stairs) (defBody s_needed_stairs) (defScope s_needed_stairs) .none kV36 dc36 pm36 an36 cd36 ct36), sl36⟩) (c36 : PySem.W.codeIn K cd36 "needed_stairs" = true) (k36 : PySem.W.keepIn K (.ref f36) = true)
    (a37 : PySem.W.nsIn K mainGlobals "_law_mixed" = some (some (.ref f37))) (l37 : K.lookup f37 = some ⟨oc37, od37, .func (PySem.W.fnOf "_law_mixed" "_law_mixed" (defArgs s__law_mixed) (defBody s__law_mixed) (defScope s__law_mixed) .none kV37 dc37 pm37 an37 cd37 ct37), sl37⟩) (c37 : PySem.W.codeIn K cd37 "_law_mixed" = true) (k37 : PySem.W.keepIn K (.ref f37) = true)
    (a38 : PySem.W.nsIn K mainGlobals "_law_take" = some (some (.ref f38))) (l38 : K.lookup f38 = some ⟨oc38, od38, .func (PySem.W.fnOf "_law_take" "_law_take" (defArgs s__law_take) (defBody s__law_take) (defScope s__law_take) .none kV38 dc38 pm38 an38 cd38 ct38), sl38⟩) (c38 : PySem.W.codeIn K cd38 "_law_take" = true) (k38 : PySem.W.keepIn K (.ref f38) = true)
    (a39 : PySem.W.nsIn K mainGlobals "_law_pick" = some (some (.ref f39))) (l39 : K.lookup f39 = some ⟨oc39, od39, .func (PySem.W.fnOf "_law_pick" "_law_pick" (defArgs s__law_pick) (defBody s__law_pick) (defScope s__law_pick) .none kV39 dc39 pm39 an39 cd39 ct39), sl39⟩) (c39 : PySem.W.codeIn K cd39 "_law_pick" = true) (k39 : PySem.W.keepIn K (.ref f39) = true)
    (a40 : PySem.W.nsIn K mainGlobals "_law_shuffled" = some (some (.ref f40))) (l40 : K.lookup f40 = some ⟨oc40, od40, .func (PySem.W.fnOf "_law_shuffled" "_law_shuffled" (defArgs s__law_shuffled) (defBody s__law_shuffled) (defScope s__law_shuffled) .none kV40 dc40 pm40 an40 cd40 ct40), sl40⟩) (c40 : PySem.W.codeIn K cd40 "_law_shuffled" = true) (k40 : PySem.W.keepIn K (.ref f40) = true)
    (a41 : PySem.W.nsIn K mainGlobals "_law_begun" = some (some (.ref f41))) (l41 : K.lookup f41 = some ⟨oc41, od41, .func (PySem.W.fnOf "_law_begun" "_law_begun" (defArgs s__law_begun) (defBody s__law_begun) (defScope s__law_begun) .none kV41 dc41 pm41 an41 cd41 ct41), sl41⟩) (c41 : PySem.W.codeIn K cd41 "_law_begun" = true) (k41 : PySem.W.keepIn K (.ref f41) = true)
    (a42 : PySem.W.nsIn K mainGlobals "_law_names" = some (some (.ref f42))) (l42 : K.lookup f42 = some ⟨oc42, od42, .func (PySem.W.fnOf "_law_names" "_law_names" (defArgs s__law_names) (defBody s__law_names) (defScope s__law_names) .none kV42 dc42 pm42 an42 cd42 ct42), sl42⟩) (c42 : PySem.W.codeIn K cd42 "_law_names" = true) (k42 : PySem.W.keepIn K (.ref f42) = true)
    (a43 : PySem.W.nsIn K mainGlobals "_law_lists" = some (some (.ref f43))) (l43 : K.lookup f43 = some ⟨oc43, od43, .func (PySem.W.fnOf "_law_lists" "_law_lists" (defArgs s__law_lists) (defBody s__law_lists) (defScope s__law_lists) .none kV43 dc43 pm43 an43 cd43 ct43), sl43⟩) (c43 : PySem.W.codeIn K cd43 "_law_lists" = true) (k43 : PySem.W.keepIn K (.ref f43) = true)
    (a44 : PySem.W.nsIn K mainGlobals "_law_state" = some (some (.ref f44))) (l44 : K.lookup f44 = some ⟨oc44, od44, .func (PySem.W.fnOf "_law_state" "_law_state" (defArgs s__law_state) (defBody s__law_state) (defScope s__law_state) .none kV44 dc44 pm44 an44 cd44 ct44), sl44⟩) (c44 : PySem.W.codeIn K cd44 "_law_state" = true) (k44 : PySem.W.keepIn K (.ref f44) = true)
    (a45 : PySem.W.nsIn K mainGlobals "_law_held" = some (some (.ref f45))) (l45 : K.lookup f45 = some ⟨oc45, od45, .func (PySem.W.fnOf "_law_held" "_law_held" (defArgs s__law_held) (defBody s__law_held) (defScope s__law_held) .none kV45 dc45 pm45 an45 cd45 ct45), sl45⟩) (c45 : PySem.W.codeIn K cd45 "_law_held" = true) (k45 : PySem.W.keepIn K (.ref f45) = true)
    (a46 : PySem.W.nsIn K mainGlobals "_law_run_out" = some (some (.ref f46))) (l46 : K.lookup f46 = some ⟨oc46, od46, .func (PySem.W.fnOf "_law_run_out" "_law_run_out" (defArgs s__law_run_out) (defBody s__law_run_out) (defScope s__law_run_out) .none kV46 dc46 pm46 an46 cd46 ct46), sl46⟩) (c46 : PySem.W.codeIn K cd46 "_law_run_out" = true) (k46 : PySem.W.keepIn K (.ref f46) = true)
    (a47 : PySem.W.nsIn K mainGlobals "_law_drawn_back" = some (some (.ref f47))) (l47 : K.lookup f47 = some ⟨oc47, od47, .func (PySem.W.fnOf "_law_drawn_back" "_law_drawn_back" (defArgs s__law_drawn_back) (defBody s__law_drawn_back) (defScope s__law_drawn_back) .none kV47 dc47 pm47 an47 cd47 ct47), sl47⟩) (c47 : PySem.W.codeIn K cd47 "_law_drawn_back" = true) (k47 : PySem.W.keepIn K (.ref f47) = true)
    (a48 : PySem.W.nsIn K mainGlobals "is_gridlock_paper" = some (some (.ref f48))) (l48 : K.lookup f48 = some ⟨oc48, od48, .func (PySem.W.fnOf "is_gridlock_paper" "is_gridlock_paper" (defArgs s_is_gridlock_paper) (defBody s_is_gridlock_paper) (defScope s_is_gridlock_paper) .none kV48 dc48 pm48 an48 cd48 ct48), sl48⟩) (c48 : PySem.W.codeIn K cd48 "is_gridlock_paper" = true) (k48 : PySem.W.keepIn K (.ref f48) = true)
    (a49 : PySem.W.nsIn K mainGlobals "_law_by_name" = some (some (.ref f49))) (l49 : K.lookup f49 = some ⟨oc49, od49, .func (PySem.W.fnOf "_law_by_name" "_law_by_name" (defArgs s__law_by_name) (defBody s__law_by_name) (defScope s__law_by_name) .none kV49 dc49 pm49 an49 cd49 ct49), sl49⟩) (c49 : PySem.W.codeIn K cd49 "_law_by_name" = true) (k49 : PySem.W.keepIn K (.ref f49) = true)
    (a50 : PySem.W.nsIn K mainGlobals "_law_number_of" = some (some (.ref f50))) (l50 : K.lookup f50 = some ⟨oc50, od50, .func (PySem.W.fnOf "_law_number_of" "_law_number_of" (defArgs s__law_number_of) (defBody s__law_number_of) (defScope s__law_number_of) .none kV50 dc50 pm50 an50 cd50 ct50), sl50⟩) (c50 : PySem.W.codeIn K cd50 "_law_number_of" = true) (k50 : PySem.W.keepIn K (.ref f50) = true)
    (a51 : PySem.W.nsIn K mainGlobals "_law_state_with" = some (some (.ref f51))) (l51 : K.lookup f51 = some ⟨oc51, od51, .func (PySem.W.fnOf "_law_state_with" "_law_state_with" (defArgs s__law_state_with) (defBody s__law_state_with) (defScope s__law_state_with) .none kV51 dc51 pm51 an51 cd51 ct51), sl51⟩) (c51 : PySem.W.codeIn K cd51 "_law_state_with" = true) (k51 : PySem.W.keepIn K (.ref f51) = true)
    (a52 : PySem.W.nsIn K mainGlobals "_law_through" = some (some (.ref f52))) (l52 : K.lookup f52 = some ⟨oc52, od52, .func (PySem.W.fnOf "_law_through" "_law_through" (defArgs s__law_through) (defBody s__law_through) (defScope s__law_through) .none kV52 dc52 pm52 an52 cd52 ct52), sl52⟩) (c52 : PySem.W.codeIn K cd52 "_law_through" = true) (k52 : PySem.W.keepIn K (.ref f52) = true)
    (a53 : PySem.W.nsIn K mainGlobals "_law_needs_right" = some (some (.ref f53))) (l53 : K.lookup f53 = some ⟨oc53, od53, .func (PySem.W.fnOf "_law_needs_right" "_law_needs_right" (defArgs s__law_needs_right) (defBody s__law_needs_right) (defScope s__law_needs_right) .none kV53 dc53 pm53 an53 cd53 ct53), sl53⟩) (c53 : PySem.W.codeIn K cd53 "_law_needs_right" = true) (k53 : PySem.W.keepIn K (.ref f53) = true)
    (a54 : PySem.W.nsIn K mainGlobals "_law_through_right" = some (some (.ref f54))) (l54 : K.lookup f54 = some ⟨oc54, od54, .func (PySem.W.fnOf "_law_through_right" "_law_through_right" (defArgs s__law_through_right) (defBody s__law_through_right) (defScope s__law_through_right) .none kV54 dc54 pm54 an54 cd54 ct54), sl54⟩) (c54 : PySem.W.codeIn K cd54 "_law_through_right" = true) (k54 : PySem.W.keepIn K (.ref f54) = true)
    (a55 : PySem.W.nsIn K mainGlobals "_law_told_right" = some (some (.ref f55))) (l55 : K.lookup f55 = some ⟨oc55, od55, .func (PySem.W.fnOf "_law_told_right" "_law_told_right" (defArgs s__law_told_right) (defBody s__law_told_right) (defScope s__law_told_right) .none kV55 dc55 pm55 an55 cd55 ct55), sl55⟩) (c55 : PySem.W.codeIn K cd55 "_law_told_right" = true) (k55 : PySem.W.keepIn K (.ref f55) = true)
    (a56 : PySem.W.nsIn K mainGlobals "law" = some (some (.ref f56))) (l56 : K.lookup f56 = some ⟨oc56, od56, .func (PySem.W.fnOf "law" "law" (defArgs s_law) (defBody s_law) (defScope s_law) .none kV56 dc56 pm56 an56 cd56 ct56), sl56⟩) (c56 : PySem.W.codeIn K cd56 "law" = true) (k56 : PySem.W.keepIn K (.ref f56) = true)
    (z_len : PySem.W.nsIn K mainGlobals "len" = some none)
    (z_isinstance : PySem.W.nsIn K mainGlobals "isinstance" = some none)
    (z_all : PySem.W.nsIn K mainGlobals "all" = some none)
    (z_tuple : PySem.W.nsIn K mainGlobals "tuple" = some none)
    (z_dict : PySem.W.nsIn K mainGlobals "dict" = some none)
    (z_range : PySem.W.nsIn K mainGlobals "range" = some none)
    (z_int : PySem.W.nsIn K mainGlobals "int" = some none)
    (z_str : PySem.W.nsIn K mainGlobals "str" = some none)
    (z_bool : PySem.W.nsIn K mainGlobals "bool" = some none)
    (z_list : PySem.W.nsIn K mainGlobals "list" = some none)
    (z_abs : PySem.W.nsIn K mainGlobals "abs" = some none)
    (z_min : PySem.W.nsIn K mainGlobals "min" = some none)
    (z_sorted : PySem.W.nsIn K mainGlobals "sorted" = some none)
    (z_enumerate : PySem.W.nsIn K mainGlobals "enumerate" = some none)
    (z_zip : PySem.W.nsIn K mainGlobals "zip" = some none)
    (z_max : PySem.W.nsIn K mainGlobals "max" = some none)
    (z_sum : PySem.W.nsIn K mainGlobals "sum" = some none)
    (v_LETTERS : PySem.W.nsIn K mainGlobals "LETTERS" = some (some (.str lettersS tl)))
    (v_MOST_HOUSES : PySem.W.nsIn K mainGlobals "MOST_HOUSES" = some (some (.int 40 th)))
    (v_MOST_PAYMENTS : PySem.W.nsIn K mainGlobals "MOST_PAYMENTS" = some (some (.int 60 tp)))
    (v_MOST_CASH : PySem.W.nsIn K mainGlobals "MOST_CASH" = some (some (.int 1000000 tc)))
    (v_MOST_PAIRS : PySem.W.nsIn K mainGlobals "MOST_PAIRS" = some (some (.int 60 tm)))
    (aKEPT : PySem.W.nsIn K mainGlobals "KEPT" = some (some (.ref aK))) (lKEPT : K.lookup aK = some ⟨.type "tuple", dK, .seq itsK nK, slK⟩) (vKEPT : Vals (keptL.map V.str) itsK.toList) :
    ∃ fd : FuncData, (∀ (s : Shared) (v : Value), BindsTo s fd ⟨[v], []⟩ [("script", v)]) ∧ ∀ base : Heap, K.In base → base.Ns mainGlobals mg → FnOk l.prog w K mg base CX0 9 fa fd ["script"] (spLaw K) := by
  have el := hfa.symm.trans (PySem.W.mg_of X G a56)
  cases el
  have F0 := fun_mk (st := s_is_name) l0 c0 k0
  have b0 := F0.binds (ps := ["thing"]) fun _ _ _ _ _ _ us hl => match us, hl with | [_], _ => rfl
  have g0 := PySem.W.mg_of X G a0
  have F1 := fun_mk (st := s_is_integer) l1 c1 k1
  have b1 := F1.binds (ps := ["thing", "low", "high"]) fun _ _ _ _ _ _ us hl => match us, hl with | [_, _, _], _ => rfl
  have g1 := PySem.W.mg_of X G a1
  have F2 := fun_mk (st := s_are_payments) l2 c2 k2
  have b2 := F2.binds (ps := ["thing", "house", "names"]) fun _ _ _ _ _ _ us hl => match us, hl with | [_, _, _], _ => rfl
  have g2 := PySem.W.mg_of X G a2
  have F3 := fun_mk (st := s_is_house_row) l3 c3 k3
  have b3 := F3.binds (ps := ["thing"]) fun _ _ _ _ _ _ us hl => match us, hl with | [_], _ => rfl
  have g3 := PySem.W.mg_of X G a3
  have F4 := fun_mk (st := s_is_queues) l4 c4 k4
  have b4 := F4.binds (ps := ["value"]) fun _ _ _ _ _ _ us hl => match us, hl with | [_], _ => rfl
  have g4 := PySem.W.mg_of X G a4
  have F5 := fun_mk (st := s_check_queues) l5 c5 k5
  have b5 := F5.binds (ps := ["queues"]) fun _ _ _ _ _ _ us hl => match us, hl with | [_], _ => rfl
  have g5 := PySem.W.mg_of X G a5
  have F6 := fun_mk (st := s_is_state_of) l6 c6 k6
  have b6 := F6.binds (ps := ["queues", "thing"]) fun _ _ _ _ _ _ us hl => match us, hl with | [_, _], _ => rfl
  have g6 := PySem.W.mg_of X G a6
  have F7 := fun_mk (st := s_check_state) l7 c7 k7
  have b7 := F7.binds (ps := ["queues", "state"]) fun _ _ _ _ _ _ us hl => match us, hl with | [_, _], _ => rfl
  have g7 := PySem.W.mg_of X G a7
  have F8 := fun_mk (st := s_number_of) l8 c8 k8
  have b8 := F8.binds (ps := ["queues"]) fun _ _ _ _ _ _ us hl => match us, hl with | [_], _ => rfl
  have g8 := PySem.W.mg_of X G a8
  have F9 := fun_mk (st := s_rich) l9 c9 k9
  have b9 := F9.binds (ps := ["queues", "cash"]) fun _ _ _ _ _ _ us hl => match us, hl with | [_, _], _ => rfl
  have g9 := PySem.W.mg_of X G a9
  have F10 := fun_mk (st := s_end_of_all) l10 c10 k10
  have b10 := F10.binds (ps := ["queues"]) fun _ _ _ _ _ _ us hl => match us, hl with | [_], _ => rfl
  have g10 := PySem.W.mg_of X G a10
  have F11 := fun_mk (st := s_is_within) l11 c11 k11
  have b11 := F11.binds (ps := ["one", "other"]) fun _ _ _ _ _ _ us hl => match us, hl with | [_, _], _ => rfl
  have g11 := PySem.W.mg_of X G a11
  have F12 := fun_mk (st := s_pays_next) l12 c12 k12
  have b12 := F12.binds (ps := ["queues", "numbers", "state", "balances", "at"]) fun _ _ _ _ _ _ us hl => match us, hl with | [_, _, _, _, _], _ => rfl
  have g12 := PySem.W.mg_of X G a12
  have F13 := fun_mk (st := s_takes_back) l13 c13 k13
  have b13 := F13.binds (ps := ["queues", "numbers", "state", "balances", "at"]) fun _ _ _ _ _ _ us hl => match us, hl with | [_, _, _, _, _], _ => rfl
  have g13 := PySem.W.mg_of X G a13
  have F14 := fun_mk (st := s_paying) l14 c14 k14
  have b14 := F14.binds (ps := ["queues", "state", "balances"]) fun _ _ _ _ _ _ us hl => match us, hl with | [_, _, _], _ => rfl
  have g14 := PySem.W.mg_of X G a14
  have F15 := fun_mk (st := s_balance_list) l15 c15 k15
  have b15 := F15.binds (ps := ["queues", "state"]) fun _ _ _ _ _ _ us hl => match us, hl with | [_, _], _ => rfl
  have g15 := PySem.W.mg_of X G a15
  have F16 := fun_mk (st := s_retreat_walk) l16 c16 k16
  have b16 := F16.binds (ps := ["queues"]) fun _ _ _ _ _ _ us hl => match us, hl with | [_], _ => rfl
  have g16 := PySem.W.mg_of X G a16
  have F17 := fun_mk (st := s_greatest_feasible) l17 c17 k17
  have b17 := F17.binds (ps := ["queues"]) fun _ _ _ _ _ _ us hl => match us, hl with | [_], _ => rfl
  have g17 := PySem.W.mg_of X G a17
  have F18 := fun_mk (st := s_run_walk) l18 c18 k18
  have b18 := F18.binds (ps := ["queues"]) fun _ _ _ _ _ _ us hl => match us, hl with | [_], _ => rfl
  have g18 := PySem.W.mg_of X G a18
  have F19 := fun_mk (st := s_final_state) l19 c19 k19
  have b19 := F19.binds (ps := ["queues"]) fun _ _ _ _ _ _ us hl => match us, hl with | [_], _ => rfl
  have g19 := PySem.W.mg_of X G a19
  have F20 := fun_mk (st := s_gridlock_paper) l20 c20 k20
  have b20 := F20.binds (ps := ["queues"]) fun _ _ _ _ _ _ us hl => match us, hl with | [_], _ => rfl
  have g20 := PySem.W.mg_of X G a20
  have F21 := fun_mk (st := s_check_house) l21 c21 k21
  have b21 := F21.binds (ps := ["queues", "house"]) fun _ _ _ _ _ _ us hl => match us, hl with | [_, _], _ => rfl
  have g21 := PySem.W.mg_of X G a21
  have F22 := fun_mk (st := s_needed) l22 c22 k22
  have b22 := F22.binds (ps := ["queues", "house", "goal"]) fun _ _ _ _ _ _ us hl => match us, hl with | [_, _, _], _ => rfl
  have g22 := PySem.W.mg_of X G a22
  have F23 := fun_mk (st := s_needed_cash) l23 c23 k23
  have b23 := F23.binds (ps := ["queues", "house", "goal"]) fun _ _ _ _ _ _ us hl => match us, hl with | [_, _, _], _ => rfl
  have g23 := PySem.W.mg_of X G a23
  have F24 := fun_mk (st := s_payers) l24 c24 k24
  have b24 := F24.binds (ps := ["queues", "state"]) fun _ _ _ _ _ _ us hl => match us, hl with | [_, _], _ => rfl
  have g24 := PySem.W.mg_of X G a24
  have F25 := fun_mk (st := s_walked_to) l25 c25 k25
  have b25 := F25.binds (ps := ["queues", "thing"]) fun _ _ _ _ _ _ us hl => match us, hl with | [_, _], _ => rfl
  have g25 := PySem.W.mg_of X G a25
  have F26 := fun_mk (st := s_run_end) l26 c26 k26
  have b26 := F26.binds (ps := ["queues", "thing"]) fun _ _ _ _ _ _ us hl => match us, hl with | [_, _], _ => rfl
  have g26 := PySem.W.mg_of X G a26
  have F27 := fun_mk (st := s_run) l27 c27 k27
  have b27 := F27.binds (ps := ["queues"]) fun _ _ _ _ _ _ us hl => match us, hl with | [_], _ => rfl
  have g27 := PySem.W.mg_of X G a27
  have F28 := fun_mk (st := s_retreat) l28 c28 k28
  have b28 := F28.binds (ps := ["queues"]) fun _ _ _ _ _ _ us hl => match us, hl with | [_], _ => rfl
  have g28 := PySem.W.mg_of X G a28
  have F29 := fun_mk (st := s_is_run) l29 c29 k29
  have b29 := F29.binds (ps := ["queues", "value"]) fun _ _ _ _ _ _ us hl => match us, hl with | [_, _], _ => rfl
  have g29 := PySem.W.mg_of X G a29
  have F30 := fun_mk (st := s_back_end) l30 c30 k30
  have b30 := F30.binds (ps := ["queues", "thing"]) fun _ _ _ _ _ _ us hl => match us, hl with | [_, _], _ => rfl
  have g30 := PySem.W.mg_of X G a30
  have F31 := fun_mk (st := s_is_retreat) l31 c31 k31
  have b31 := F31.binds (ps := ["queues", "value"]) fun _ _ _ _ _ _ us hl => match us, hl with | [_, _], _ => rfl
  have g31 := PySem.W.mg_of X G a31
  have F32 := fun_mk (st := s_sum_of_all) l32 c32 k32
  have b32 := F32.binds (ps := ["queues"]) fun _ _ _ _ _ _ us hl => match us, hl with | [_], _ => rfl
  have g32 := PySem.W.mg_of X G a32
  have F33 := fun_mk (st := s_lack) l33 c33 k33
  have b33 := F33.binds (ps := ["queues", "house"]) fun _ _ _ _ _ _ us hl => match us, hl with | [_, _], _ => rfl
  have g33 := PySem.W.mg_of X G a33
  have F34 := fun_mk (st := s_check_two) l34 c34 k34
  have b34 := F34.binds (ps := ["queues", "one", "other"]) fun _ _ _ _ _ _ us hl => match us, hl with | [_, _, _], _ => rfl
  have g34 := PySem.W.mg_of X G a34
  have F35 := fun_mk (st := s_pairs_of) l35 c35 k35
  have b35 := F35.binds (ps := ["queues", "one", "other"]) fun _ _ _ _ _ _ us hl => match us, hl with | [_, _, _], _ => rfl
  have g35 := PySem.W.mg_of X G a35
  have F36 := fun_mk (st := s_needed_stairs) l36 c36 k36
  have b36 := F36.binds (ps := ["queues", "one", "other"]) fun _ _ _ _ _ _ us hl => match us, hl with | [_, _, _], _ => rfl
  have g36 := PySem.W.mg_of X G a36
  have F37 := fun_mk (st := s__law_mixed) l37 c37 k37
  have b37 := F37.binds (ps := ["draw"]) fun _ _ _ _ _ _ us hl => match us, hl with | [_], _ => rfl
  have g37 := PySem.W.mg_of X G a37
  have F38 := fun_mk (st := s__law_take) l38 c38 k38
  have b38 := F38.binds (ps := ["draw", "many"]) fun _ _ _ _ _ _ us hl => match us, hl with | [_, _], _ => rfl
  have g38 := PySem.W.mg_of X G a38
  have F39 := fun_mk (st := s__law_pick) l39 c39 k39
  have b39 := F39.binds (ps := ["draw", "some"]) fun _ _ _ _ _ _ us hl => match us, hl with | [_, _], _ => rfl
  have g39 := PySem.W.mg_of X G a39
  have F40 := fun_mk (st := s__law_shuffled) l40 c40 k40
  have b40 := F40.binds (ps := ["draw", "some"]) fun _ _ _ _ _ _ us hl => match us, hl with | [_, _], _ => rfl
  have g40 := PySem.W.mg_of X G a40
  have F41 := fun_mk (st := s__law_begun) l41 c41 k41
  have b41 := F41.binds (ps := ["script"]) fun _ _ _ _ _ _ us hl => match us, hl with | [_], _ => rfl
  have g41 := PySem.W.mg_of X G a41
  have F42 := fun_mk (st := s__law_names) l42 c42 k42
  have b42 := F42.binds (ps := ["draw", "many"]) fun _ _ _ _ _ _ us hl => match us, hl with | [_, _], _ => rfl
  have g42 := PySem.W.mg_of X G a42
  have F43 := fun_mk (st := s__law_lists) l43 c43 k43
  have b43 := F43.binds (ps := ["draw", "names", "most", "top"]) fun _ _ _ _ _ _ us hl => match us, hl with | [_, _, _, _], _ => rfl
  have g43 := PySem.W.mg_of X G a43
  have F44 := fun_mk (st := s__law_state) l44 c44 k44
  have b44 := F44.binds (ps := ["queues", "told"]) fun _ _ _ _ _ _ us hl => match us, hl with | [_, _], _ => rfl
  have g44 := PySem.W.mg_of X G a44
  have F45 := fun_mk (st := s__law_held) l45 c45 k45
  have b45 := F45.binds (ps := ["queues", "told"]) fun _ _ _ _ _ _ us hl => match us, hl with | [_, _], _ => rfl
  have g45 := PySem.W.mg_of X G a45
  have F46 := fun_mk (st := s__law_run_out) l46 c46 k46
  have b46 := F46.binds (ps := ["queues"]) fun _ _ _ _ _ _ us hl => match us, hl with | [_], _ => rfl
  have g46 := PySem.W.mg_of X G a46
  have F47 := fun_mk (st := s__law_drawn_back) l47 c47 k47
  have b47 := F47.binds (ps := ["queues"]) fun _ _ _ _ _ _ us hl => match us, hl with | [_], _ => rfl
  have g47 := PySem.W.mg_of X G a47
  have F48 := fun_mk (st := s_is_gridlock_paper) l48 c48 k48
  have b48 := F48.binds (ps := ["queues", "value"]) fun _ _ _ _ _ _ us hl => match us, hl with | [_, _], _ => rfl
  have g48 := PySem.W.mg_of X G a48
  have F49 := fun_mk (st := s__law_by_name) l49 c49 k49
  have b49 := F49.binds (ps := ["queues", "state"]) fun _ _ _ _ _ _ us hl => match us, hl with | [_, _], _ => rfl
  have g49 := PySem.W.mg_of X G a49
  have F50 := fun_mk (st := s__law_number_of) l50 c50 k50
  have b50 := F50.binds (ps := ["queues", "state", "house"]) fun _ _ _ _ _ _ us hl => match us, hl with | [_, _, _], _ => rfl
  have g50 := PySem.W.mg_of X G a50
  have F51 := fun_mk (st := s__law_state_with) l51 c51 k51
  have b51 := F51.binds (ps := ["queues", "other", "state", "fresh", "many"]) fun _ _ _ _ _ _ us hl => match us, hl with | [_, _, _, _, _], _ => rfl
  have g51 := PySem.W.mg_of X G a51
  have F52 := fun_mk (st := s__law_through) l52 c52 k52
  have b52 := F52.binds (ps := ["queues", "house", "fresh"]) fun _ _ _ _ _ _ us hl => match us, hl with | [_, _, _], _ => rfl
  have g52 := PySem.W.mg_of X G a52
  have F53 := fun_mk (st := s__law_needs_right) l53 c53 k53
  have b53 := F53.binds (ps := ["draw", "queues", "other", "house", "fresh", "is_through"]) fun _ _ _ _ _ _ us hl => match us, hl with | [_, _, _, _, _, _], _ => rfl
  have g53 := PySem.W.mg_of X G a53
  have F54 := fun_mk (st := s__law_through_right) l54 c54 k54
  have b54 := F54.binds (ps := ["draw", "queues", "house", "fresh"]) fun _ _ _ _ _ _ us hl => match us, hl with | [_, _, _, _], _ => rfl
  have g54 := PySem.W.mg_of X G a54
  have F55 := fun_mk (st := s__law_told_right) l55 c55 k55
  have b55 := F55.binds (ps := ["draw", "queues", "house", "fresh"]) fun _ _ _ _ _ _ us hl => match us, hl with | [_, _, _, _], _ => rfl
  have g55 := PySem.W.mg_of X G a55
  have F56 := fun_mk (st := s_law) l56 c56 k56
  have len : itsK.size ≤ sizeLine := by
    have z := vKEPT.length
    have e : itsK.size = itsK.toList.length := by simp
    rw [e, ← z]
    exact sz_of (by decide)
  have T : Tx K mg aK ⟨tl, th, tp, tc, tm⟩ := { len := PySem.W.mg_none_of X G z_len, isinstance := PySem.W.mg_none_of X G z_isinstance, all := PySem.W.mg_none_of X G z_all, tuple := PySem.W.mg_none_of X G z_tuple, dict := PySem.W.mg_none_of X G z_dict, range := PySem.W.mg_none_of X G z_range, int := PySem.W.mg_none_of X G z_int, str := PySem.W.mg_none_of X G z_str, bool := PySem.W.mg_none_of X G z_bool, list := PySem.W.mg_none_of X G z_list, abs := PySem.W.mg_none_of X G z_abs, min := PySem.W.mg_none_of X G z_min, sorted := PySem.W.mg_none_of X G z_sorted, enumerate := PySem.W.mg_none_of X G z_enumerate, zip := PySem.W.mg_none_of X G z_zip, max := PySem.W.mg_none_of X G z_max, sum := PySem.W.mg_none_of X G z_sum, g_KEPT := PySem.W.mg_of X G aKEPT, g_LETTERS := PySem.W.mg_of X G v_LETTERS, g_MOST_HOUSES := PySem.W.mg_of X G v_MOST_HOUSES, g_MOST_PAYMENTS := PySem.W.mg_of X G v_MOST_PAYMENTS, g_MOST_CASH := PySem.W.mg_of X G v_MOST_CASH, g_MOST_PAIRS := PySem.W.mg_of X G v_MOST_PAIRS, k_KEPT := ⟨_, itsK, nK, lKEPT, rfl, rfl, len, vKEPT⟩ }
  refine ⟨PySem.W.fnOf "law" "law" (defArgs s_law) (defBody s_law) (defScope s_law) .none kV56 dc56 pm56 an56 cd56 ct56, fun s v => .of_eq rfl, fun base _ _ => ?_⟩
  have c_is_name : Cal l.prog w K mg base CX0 1 "is_name" ["thing"] (spB PreName) := ⟨_, _, ok_is_name F0 T, g0, k0, b0⟩
  have c_is_integer : Cal l.prog w K mg base CX0 1 "is_integer" ["thing", "low", "high"] (spB PreInt) := ⟨_, _, ok_is_integer F1 T, g1, k1, b1⟩
  have c_are_payments : Cal l.prog w K mg base CX0 2 "are_payments" ["thing", "house", "names"] (spB PrePays) := ⟨_, _, ok_are_payments F2 T c_is_integer, g2, k2, b2⟩
  have c_is_house_row : Cal l.prog w K mg base CX0 2 "is_house_row" ["thing"] (spB PreRow) := ⟨_, _, ok_is_house_row F3 T c_is_integer c_is_name, g3, k3, b3⟩
  have c_is_queues : Cal l.prog w K mg base CX0 3 "is_queues" ["value"] (spB PreQ) := ⟨_, _, ok_is_queues F4 T c_are_payments c_is_house_row, g4, k4, b4⟩
  have c_check_queues : Cal l.prog w K mg base CX0 4 "check_queues" ["queues"] (spN PreQ) := ⟨_, _, ok_check_queues F5 T c_is_queues, g5, k5, b5⟩
  have c_is_state_of : Cal l.prog w K mg base CX0 2 "is_state_of" ["queues", "thing"] (spB PreSt) := ⟨_, _, ok_is_state_of F6 T c_is_integer, g6, k6, b6⟩
  have c_check_state : Cal l.prog w K mg base CX0 3 "check_state" ["queues", "state"] (spN PreSt) := ⟨_, _, ok_check_state F7 T c_is_state_of, g7, k7, b7⟩
  have c_number_of : Cal l.prog w K mg base CX0 1 "number_of" ["queues"] spNum := ⟨_, _, ok_number_of F8 T, g8, k8, b8⟩
  have c_rich : Cal l.prog w K mg base CX0 1 "rich" ["queues", "cash"] spRich := ⟨_, _, ok_rich F9 T, g9, k9, b9⟩
  have c_end_of_all : Cal l.prog w K mg base CX0 1 "end_of_all" ["queues"] spEnd := ⟨_, _, ok_end_of_all F10 T, g10, k10, b10⟩
  have c_is_within : Cal l.prog w K mg base CX0 1 "is_within" ["one", "other"] spWith := ⟨_, _, ok_is_within F11 T, g11, k11, b11⟩
  have c_pays_next : Cal l.prog w K mg base CX0 1 "pays_next" ["queues", "numbers", "state", "balances", "at"] spPay := ⟨_, _, ok_pays_next F12 T, g12, k12, b12⟩
  have c_takes_back : Cal l.prog w K mg base CX0 1 "takes_back" ["queues", "numbers", "state", "balances", "at"] spBack := ⟨_, _, ok_takes_back F13 T, g13, k13, b13⟩
  have c_paying : Cal l.prog w K mg base CX0 1 "paying" ["queues", "state", "balances"] spPaying := ⟨_, _, ok_paying F14 T, g14, k14, b14⟩
  have c_balance_list : Cal l.prog w K mg base CX0 2 "balance_list" ["queues", "state"] spBal := ⟨_, _, ok_balance_list F15 T c_number_of, g15, k15, b15⟩
  have c_retreat_walk : Cal l.prog w K mg base CX0 3 "retreat_walk" ["queues"] spRet := ⟨_, _, ok_retreat_walk F16 T c_number_of c_end_of_all c_balance_list c_takes_back, g16, k16, b16⟩
  have c_greatest_feasible : Cal l.prog w K mg base CX0 5 "greatest_feasible" ["queues"] spGre := ⟨_, _, ok_greatest_feasible F17 T c_check_queues c_retreat_walk, g17, k17, b17⟩
  have c_run_walk : Cal l.prog w K mg base CX0 3 "run_walk" ["queues"] spRun := ⟨_, _, ok_run_walk F18 T c_number_of c_balance_list c_paying c_pays_next, g18, k18, b18⟩
  have c_final_state : Cal l.prog w K mg base CX0 5 "final_state" ["queues"] spFin := ⟨_, _, ok_final_state F19 T c_check_queues c_run_walk, g19, k19, b19⟩
  have c_gridlock_paper : Cal l.prog w K mg base CX0 5 "gridlock_paper" ["queues"] spGrid := ⟨_, _, ok_gridlock_paper F20 T c_check_queues c_retreat_walk c_run_walk, g20, k20, b20⟩
  have c_check_house : Cal l.prog w K mg base CX0 2 "check_house" ["queues", "house"] (spN PreHouse) := ⟨_, _, ok_check_house F21 T c_number_of, g21, k21, b21⟩
  have c_needed : Cal l.prog w K mg base CX0 3 "needed" ["queues", "house", "goal"] spNeeded := ⟨_, _, ok_needed F22 T c_rich c_number_of c_balance_list c_is_within c_paying c_pays_next, g22, k22, b22⟩
  have c_needed_cash : Cal l.prog w K mg base CX0 5 "needed_cash" ["queues", "house", "goal"] spNeed := ⟨_, _, ok_needed_cash F23 T c_check_queues c_check_house c_check_state c_needed, g23, k23, b23⟩
  have c_payers : Cal l.prog w K mg base CX0 3 "payers" ["queues", "state"] spPayers := ⟨_, _, ok_payers F24 T c_balance_list c_paying, g24, k24, b24⟩
  have c_walked_to : Cal l.prog w K mg base CX0 3 "walked_to" ["queues", "thing"] spWalked := ⟨_, _, ok_walked_to F25 T c_number_of c_balance_list c_pays_next, g25, k25, b25⟩
  have c_run_end : Cal l.prog w K mg base CX0 4 "run_end" ["queues", "thing"] spRunEnd := ⟨_, _, ok_run_end F26 T c_walked_to c_paying, g26, k26, b26⟩
  have c_run : Cal l.prog w K mg base CX0 5 "run" ["queues"] spRunN := ⟨_, _, ok_run F27 T c_check_queues c_run_walk, g27, k27, b27⟩
  have c_retreat : Cal l.prog w K mg base CX0 5 "retreat" ["queues"] spBackN := ⟨_, _, ok_retreat F28 T c_check_queues c_retreat_walk, g28, k28, b28⟩
  have c_is_run : Cal l.prog w K mg base CX0 5 "is_run" ["queues", "value"] (spB PreIsRun) := ⟨_, _, ok_is_run F29 T c_check_queues c_run_end, g29, k29, b29⟩
  have c_back_end : Cal l.prog w K mg base CX0 3 "back_end" ["queues", "thing"] spBackEnd := ⟨_, _, ok_back_end F30 T c_number_of c_end_of_all c_balance_list c_takes_back, g30, k30, b30⟩
  have c_is_retreat : Cal l.prog w K mg base CX0 5 "is_retreat" ["queues", "value"] (spB PreIsBack) := ⟨_, _, ok_is_retreat F31 T c_check_queues c_back_end, g31, k31, b31⟩
  have c_sum_of_all : Cal l.prog w K mg base CX0 1 "sum_of_all" ["queues"] spSum := ⟨_, _, ok_sum_of_all F32 T, g32, k32, b32⟩
  have c_lack : Cal l.prog w K mg base CX0 5 "lack" ["queues", "house"] spLack := ⟨_, _, ok_lack F33 T c_check_queues c_check_house c_needed c_end_of_all c_number_of, g33, k33, b33⟩
  have c_check_two : Cal l.prog w K mg base CX0 5 "check_two" ["queues", "one", "other"] (spN PreTwo) := ⟨_, _, ok_check_two F34 T c_check_queues c_check_house, g34, k34, b34⟩
  have c_pairs_of : Cal l.prog w K mg base CX0 4 "pairs_of" ["queues", "one", "other"] spPairs := ⟨_, _, ok_pairs_of F35 T c_end_of_all c_needed c_rich c_sum_of_all, g35, k35, b35⟩
  have c_needed_stairs : Cal l.prog w K mg base CX0 6 "needed_stairs" ["queues", "one", "other"] spStairs := ⟨_, _, ok_needed_stairs F36 T c_check_two c_pairs_of, g36, k36, b36⟩
  have c__law_mixed : Cal l.prog w K mg base CX0 1 "_law_mixed" ["draw"] spMixed := ⟨_, _, ok__law_mixed F37 T, g37, k37, b37⟩
  have c__law_take : Cal l.prog w K mg base CX0 2 "_law_take" ["draw", "many"] spTake := ⟨_, _, ok__law_take F38 T c__law_mixed, g38, k38, b38⟩
  have c__law_pick : Cal l.prog w K mg base CX0 3 "_law_pick" ["draw", "some"] spPick := ⟨_, _, ok__law_pick F39 T c__law_take, g39, k39, b39⟩
  have c__law_shuffled : Cal l.prog w K mg base CX0 3 "_law_shuffled" ["draw", "some"] spShuf := ⟨_, _, ok__law_shuffled F40 T c__law_take, g40, k40, b40⟩
  have c__law_begun : Cal l.prog w K mg base CX0 1 "_law_begun" ["script"] (spBegun K) := ⟨_, _, ok__law_begun F41 T, g41, k41, b41⟩
  have c__law_names : Cal l.prog w K mg base CX0 4 "_law_names" ["draw", "many"] spNames := ⟨_, _, ok__law_names F42 T c__law_take c__law_pick, g42, k42, b42⟩
  have c__law_lists : Cal l.prog w K mg base CX0 4 "_law_lists" ["draw", "names", "most", "top"] spLists := ⟨_, _, ok__law_lists F43 T c__law_take c__law_pick c__law_shuffled, g43, k43, b43⟩
  have c__law_state : Cal l.prog w K mg base CX0 1 "_law_state" ["queues", "told"] spStateL := ⟨_, _, ok__law_state F44 T, g44, k44, b44⟩
  have c__law_held : Cal l.prog w K mg base CX0 1 "_law_held" ["queues", "told"] spHeldL := ⟨_, _, ok__law_held F45 T, g45, k45, b45⟩
  have c__law_run_out : Cal l.prog w K mg base CX0 2 "_law_run_out" ["queues"] spRunL := ⟨_, _, ok__law_run_out F46 T c__law_held, g46, k46, b46⟩
  have c__law_drawn_back : Cal l.prog w K mg base CX0 2 "_law_drawn_back" ["queues"] spBackL := ⟨_, _, ok__law_drawn_back F47 T c__law_held, g47, k47, b47⟩
  have c_is_gridlock_paper : Cal l.prog w K mg base CX0 5 "is_gridlock_paper" ["queues", "value"] (spB PreIsGrid) := ⟨_, _, ok_is_gridlock_paper F48 T c_check_queues c_back_end c_run_end c_is_state_of c_payers c_is_within, g48, k48, b48⟩
  have c__law_by_name : Cal l.prog w K mg base CX0 1 "_law_by_name" ["queues", "state"] spByN := ⟨_, _, ok__law_by_name F49 T, g49, k49, b49⟩
  have c__law_number_of : Cal l.prog w K mg base CX0 2 "_law_number_of" ["queues", "state", "house"] spNumOf := ⟨_, _, ok__law_number_of F50 T c__law_by_name, g50, k50, b50⟩
  have c__law_state_with : Cal l.prog w K mg base CX0 2 "_law_state_with" ["queues", "other", "state", "fresh", "many"] spWithS := ⟨_, _, ok__law_state_with F51 T c__law_by_name c__law_state, g51, k51, b51⟩
  have c__law_through : Cal l.prog w K mg base CX0 1 "_law_through" ["queues", "house", "fresh"] spThru := ⟨_, _, ok__law_through F52 T, g52, k52, b52⟩
  have c__law_needs_right : Cal l.prog w K mg base CX0 7 "_law_needs_right" ["draw", "queues", "other", "house", "fresh", "is_through"] spNeedsR := ⟨_, _, ok__law_needs_right F53 T c__law_take c__law_pick c__law_state_with c__law_number_of c_needed_cash c_lack c__law_shuffled c_needed_stairs, g53, k53, b53⟩
  have NE2 := fn_ne l17 l19 (show ("greatest_feasible" : Str) ≠ "final_state" by decide +kernel)
  have A_W : ∀ fa sp, SWork f19 f17 fa = some sp → Held l.prog w K mg base 5 fa sp := fun fa sp h => by
    unfold SWork at h
    split at h
    · rename_i e
      cases h
      rw [e]
      exact held_of c_final_state g19
    · split at h
      · rename_i e
        cases h
        rw [e]
        exact held_of c_greatest_feasible g17
      · cases h
  have c__law_through_right : Cal l.prog w K mg base CX0 8 "_law_through_right" ["draw", "queues", "house", "fresh"] spThrR := ⟨_, _, ok__law_through_right F54 T g19 g17 NE2 A_W c__law_through c__law_run_out c__law_drawn_back c__law_state c__law_state_with c_run c_gridlock_paper c_is_run c_is_gridlock_paper c__law_number_of c__law_needs_right, g54, k54, b54⟩
  have c__law_told_right : Cal l.prog w K mg base CX0 8 "_law_told_right" ["draw", "queues", "house", "fresh"] spThrR := ⟨_, _, ok__law_told_right F55 T g19 g17 NE2 A_W c__law_state_with c_run c_retreat c_gridlock_paper c_is_run c_is_retreat c__law_needs_right, g55, k55, b55⟩
  exact ok_law F56 T c__law_begun c__law_take c__law_pick c__law_names c__law_lists c__law_through_right c__law_told_right
end NQ
open PySem PySem.W PyProof.Rows
set_option maxHeartbeats 0 in
theorem PySem.Challenge.cw_noringgains_k42_whole_queues_through_ano_holds : PySem.Challenge.rw_noringgains_k42_whole_queues_through_ano.Holds := by
  w_on; o_law; k_head; (case hw => w_witness2)
  k_fill
  refine L2.walk_of (l := PySem.Challenge.rw_noringgains_k42_whole_queues_through_ano) (n := 63) (k := 9) (x := "script") (CX := fun _ => L2.CX0) (sp := fun w => NQ.spLaw _) rfl (by decide) rfl ⟨rfl, by decide, by decide⟩ (fun w h Y => by first | exact PySem.W.kIn_of Y | exact PySem.W.km_in_of Y) ?F (fun _ _ a ns hl _ hS => ⟨a, ns, rfl, hS, hl, fun _ => rfl⟩) (fun _ _ _ _ _ h => h)
  case F =>
    intro w mg fa h KX G hmg
    refine' NQ.all_mk KX G hmg ?a0 ?l0 ?c0 ?k0 ?a1 ?l1 ?c1 ?k1 ?a2 ?l2 ?c2 ?k2 ?a3 ?l3 ?c3 ?k3 ?a4 ?l4 ?c4 ?k4 ?a5 ?l5 ?c5 ?k5 ?a6 ?l6 ?c6 ?k6 ?a7 ?l7 ?c7 ?k7 ?a8 ?l8 ?c8 ?k8 ?a9 ?l9 ?c9 ?k9 ?a10 ?l10 ?c10 ?k10 ?a11 ?l11 ?c11 ?k11 ?a12 ?l12 ?c12 ?k12 ?a13 ?l13 ?c13 ?k13 ?a14 ?l14 ?c14 ?k14 ?a15 ?l15 ?c15 ?k15 ?a16 ?l16 ?c16 ?k16 ?a17 ?l17 ?c17 ?k17 ?a18 ?l18 ?c18 ?k18 ?a19 ?l19 ?c19 ?k19 ?a20 ?l20 ?c20 ?k20 ?a21 ?l21 ?c21 ?k21 ?a22 ?l22 ?c22 ?k22 ?a23 ?l23 ?c23 ?k23 ?a24 ?l24 ?c24 ?k24 ?a25 ?l25 ?c25 ?k25 ?a26 ?l26 ?c26 ?k26 ?a27 ?l27 ?c27 ?k27 ?a28 ?l28 ?c28 ?k28 ?a29 ?l29 ?c29 ?k29 ?a30 ?l30 ?c30 ?k30 ?a31 ?l31 ?c31 ?k31 ?a32 ?l32 ?c32 ?k32 ?a33 ?l33 ?c33 ?k33 ?a34 ?l34 ?c34 ?k34 ?a35 ?l35 ?c35 ?k35 ?a36 ?l36 ?c36 ?k36 ?a37 ?l37 ?c37 ?k37 ?a38 ?l38 ?c38 ?k38 ?a39 ?l39 ?c39 ?k39 ?a40 ?l40 ?c40 ?k40 ?a41 ?l41 ?c41 ?k41 ?a42 ?l42 ?c42 ?k42 ?a43 ?l43 ?c43 ?k43 ?a44 ?l44 ?c44 ?k44 ?a45 ?l45 ?c45 ?k45 ?a46 ?l46 ?c46 ?k46 ?a47 ?l47 ?c47 ?k47 ?a48 ?l48 ?c48 ?k48 ?a49 ?l49 ?c49 ?k49 ?a50 ?l50 ?c50 ?k50 ?a51 ?l51 ?c51 ?k51 ?a52 ?l52 ?c52 ?k52 ?a53 ?l53 ?c53 ?k53 ?a54 ?l54 ?c54 ?k54 ?a55 ?l55 ?c55 ?k55 ?a56 ?l56 ?c56 ?k56 ?z_len ?z_isinstance ?z_all ?z_tuple ?z_dict ?z_range ?z_int ?z_str ?z_bool ?z_list ?z_abs ?z_min ?z_sorted ?z_enumerate ?z_zip ?z_max ?z_sum ?v_LETTERS ?v_MOST_HOUSES ?v_MOST_PAYMENTS ?v_MOST_CASH ?v_MOST_PAIRS ?aKEPT ?lKEPT ?vKEPT
    (case a0 => k_is)
    (case l0 => k_is)
    (case c0 => k_is)
    (case k0 => k_is)
    (case a1 => k_is)
    (case l1 => k_is)
    (case c1 => k_is)
    (case k1 => k_is)
    (case a2 => k_is)
    (case l2 => k_is)
    (case c2 => k_is)
    (case k2 => k_is)
    (case a3 => k_is)
    (case l3 => k_is)
    (case c3 => k_is)
    (case k3 => k_is)
    (case a4 => k_is)
    (case l4 => k_is)
    (case c4 => k_is)
    (case k4 => k_is)
    (case a5 => k_is)
    (case l5 => k_is)
    (case c5 => k_is)
    (case k5 => k_is)
    (case a6 => k_is)
    (case l6 => k_is)
    (case c6 => k_is)
    (case k6 => k_is)
    (case a7 => k_is)
    (case l7 => k_is)
    (case c7 => k_is)
    (case k7 => k_is)
    (case a8 => k_is)
    (case l8 => k_is)
    (case c8 => k_is)
    (case k8 => k_is)
    (case a9 => k_is)
    (case l9 => k_is)
    (case c9 => k_is)
    (case k9 => k_is)
    (case a10 => k_is)
    (case l10 => k_is)
    (case c10 => k_is)
    (case k10 => k_is)
    (case a11 => k_is)
    (case l11 => k_is)
    (case c11 => k_is)
    (case k11 => k_is)
    (case a12 => k_is)
    (case l12 => k_is)
    (case c12 => k_is)
    (case k12 => k_is)
    (case a13 => k_is)
    (case l13 => k_is)
    (case c13 => k_is)
    (case k13 => k_is)
    (case a14 => k_is)
    (case l14 => k_is)
    (case c14 => k_is)
    (case k14 => k_is)
    (case a15 => k_is)
    (case l15 => k_is)
    (case c15 => k_is)
    (case k15 => k_is)
    (case a16 => k_is)
    (case l16 => k_is)
    (case c16 => k_is)
    (case k16 => k_is)
    (case a17 => k_is)
    (case l17 => k_is)
    (case c17 => k_is)
    (case k17 => k_is)
    (case a18 => k_is)
    (case l18 => k_is)
    (case c18 => k_is)
    (case k18 => k_is)
    (case a19 => k_is)
    (case l19 => k_is)
    (case c19 => k_is)
    (case k19 => k_is)
    (case a20 => k_is)
    (case l20 => k_is)
    (case c20 => k_is)
    (case k20 => k_is)
    (case a21 => k_is)
    (case l21 => k_is)
    (case c21 => k_is)
    (case k21 => k_is)
    (case a22 => k_is)
    (case l22 => k_is)
    (case c22 => k_is)
    (case k22 => k_is)
    (case a23 => k_is)
    (case l23 => k_is)
    (case c23 => k_is)
    (case k23 => k_is)
    (case a24 => k_is)
    (case l24 => k_is)
    (case c24 => k_is)
    (case k24 => k_is)
    (case a25 => k_is)
    (case l25 => k_is)
    (case c25 => k_is)
    (case k25 => k_is)
    (case a26 => k_is)
    (case l26 => k_is)
    (case c26 => k_is)
    (case k26 => k_is)
    (case a27 => k_is)
    (case l27 => k_is)
    (case c27 => k_is)
    (case k27 => k_is)
    (case a28 => k_is)
    (case l28 => k_is)
    (case c28 => k_is)
    (case k28 => k_is)
    (case a29 => k_is)
    (case l29 => k_is)
    (case c29 => k_is)
    (case k29 => k_is)
    (case a30 => k_is)
    (case l30 => k_is)
    (case c30 => k_is)
    (case k30 => k_is)
    (case a31 => k_is)
    (case l31 => k_is)
    (case c31 => k_is)
    (case k31 => k_is)
    (case a32 => k_is)
    (case l32 => k_is)
    (case c32 => k_is)
    (case k32 => k_is)
    (case a33 => k_is)
    (case l33 => k_is)
    (case c33 => k_is)
    (case k33 => k_is)
    (case a34 => k_is)
    (case l34 => k_is)
    (case c34 => k_is)
    (case k34 => k_is)
    (case a35 => k_is)
    (case l35 => k_is)
    (case c35 => k_is)
    (case k35 => k_is)
    (case a36 => k_is)
    (case l36 => k_is)
    (case c36 => k_is)
    (case k36 => k_is)
    (case a37 => k_is)
    (case l37 => k_is)
    (case c37 => k_is)
    (case k37 => k_is)
    (case a38 => k_is)
    (case l38 => k_is)
    (case c38 => k_is)
    (case k38 => k_is)
    (case a39 => k_is)
    (case l39 => k_is)
    (case c39 => k_is)
    (case k39 => k_is)
    (case a40 => k_is)
    (case l40 => k_is)
    (case c40 => k_is)
    (case k40 => k_is)
    (case a41 => k_is)
    (case l41 => k_is)
    (case c41 => k_is)
    (case k41 => k_is)
    (case a42 => k_is)
    (case l42 => k_is)
    (case c42 => k_is)
    (case k42 => k_is)
    (case a43 => k_is)
    (case l43 => k_is)
    (case c43 => k_is)
    (case k43 => k_is)
    (case a44 => k_is)
    (case l44 => k_is)
    (case c44 => k_is)
    (case k44 => k_is)
    (case a45 => k_is)
    (case l45 => k_is)
    (case c45 => k_is)
    (case k45 => k_is)
    (case a46 => k_is)
    (case l46 => k_is)
    (case c46 => k_is)
    (case k46 => k_is)
    (case a47 => k_is)
    (case l47 => k_is)
    (case c47 => k_is)
    (case k47 => k_is)
    (case a48 => k_is)
    (case l48 => k_is)
    (case c48 => k_is)
    (case k48 => k_is)
    (case a49 => k_is)
    (case l49 => k_is)
    (case c49 => k_is)
    (case k49 => k_is)
    (case a50 => k_is)
    (case l50 => k_is)
    (case c50 => k_is)
    (case k50 => k_is)
    (case a51 => k_is)
    (case l51 => k_is)
    (case c51 => k_is)
    (case k51 => k_is)
    (case a52 => k_is)
    (case l52 => k_is)
    (case c52 => k_is)
    (case k52 => k_is)
    (case a53 => k_is)
    (case l53 => k_is)
    (case c53 => k_is)
    (case k53 => k_is)
    (case a54 => k_is)
    (case l54 => k_is)
    (case c54 => k_is)
    (case k54 => k_is)
    (case a55 => k_is)
    (case l55 => k_is)
    (case c55 => k_is)
    (case k55 => k_is)
    (case a56 => k_is)
    (case l56 => k_is)
    (case c56 => k_is)
    (case k56 => k_is)
    (case z_len => k_is)
    (case z_isinstance => k_is)
    (case z_all => k_is)
    (case z_tuple => k_is)
    (case z_dict => k_is)
    (case z_range => k_is)
    (case z_int => k_is)
    (case z_str => k_is)
    (case z_bool => k_is)
    (case z_list => k_is)
    (case z_abs => k_is)
    (case z_min => k_is)
    (case z_sorted => k_is)
    (case z_enumerate => k_is)
    (case z_zip => k_is)
    (case z_max => k_is)
    (case z_sum => k_is)
    (case v_LETTERS => k_is)
    (case v_MOST_HOUSES => k_is)
    (case v_MOST_PAYMENTS => k_is)
    (case v_MOST_CASH => k_is)
    (case v_MOST_PAIRS => k_is)
    (case aKEPT => k_is)
    (case lKEPT => k_is)
    (case vKEPT => repeat (first | exact .nil | refine .cons ⟨_, rfl⟩ ?_))
