import PyProof.Rows.All
import Wide.All
import OpenK.AllK
import Wide.FinOn
import KE.KLam
import KE.KNestM
import KE.SortKeyHeap
import KE.DataMinMax
import HandS.ForMost
import HandS.Lambda
import HandS.SortKw
import HandS.DictComp
import HandS.EndTab
import HandS.Flow
import HandS.Deep
import HandS.Defaults
import HandS.MakeKw
import HandS.MakeKwOnly
import HandS.Property
import HandS.Walk
import HandS.Conv
import PySem.Challenge.RW_walkdues_k19_whole_no_run_asks_more
set_option Elab.async false
set_option linter.all false
set_option maxRecDepth 100000
set_option maxHeartbeats 4000000
/-! The plain law: what the walk of a task can demand, and the heavy walk. No program in sight. -/
namespace WD
set_option autoImplicit false
/-! ### lists of ints -/
theorem sum_app : ∀ (a b : List Int), (a ++ b).sum = a.sum + b.sum
  | [], b => by simp
  | x :: a, b => by
    have ih := sum_app a b
    rw [List.cons_append, List.sum_cons, List.sum_cons, ih]
    omega
theorem sum_perm {a b : List Int} (h : a.Perm b) : a.sum = b.sum := by
  induction h with
  | nil => rfl
  | cons x _ ih => rw [List.sum_cons, List.sum_cons, ih]
  | swap x y l => rw [List.sum_cons, List.sum_cons, List.sum_cons, List.sum_cons]; omega
  | trans _ _ ih1 ih2 => rw [ih1, ih2]
theorem sum_nonneg : ∀ {l : List Int}, (∀ x ∈ l, 0 ≤ x) → 0 ≤ l.sum
  | [], _ => by simp
  | x :: l, h => by
    have h1 := h x (List.mem_cons_self ..)
    have h2 := sum_nonneg (l := l) fun y hy => h y (List.mem_cons_of_mem _ hy)
    rw [List.sum_cons]
    omega
/-- the greatest, 0 for none (of numbers that are not negative) -/
def mx0 : List Int → Int
  | [] => 0
  | x :: l => if mx0 l ≤ x then x else mx0 l
theorem mx0_nonneg : ∀ {l : List Int}, (∀ x ∈ l, 0 ≤ x) → 0 ≤ mx0 l
  | [], _ => by simp [mx0]
  | x :: l, h => by
    have h1 := h x (List.mem_cons_self ..)
    have h2 := mx0_nonneg (l := l) fun y hy => h y (List.mem_cons_of_mem _ hy)
    unfold mx0
    split <;> omega
theorem le_mx0 : ∀ {l : List Int} {x : Int}, x ∈ l → x ≤ mx0 l
  | y :: l, x, h => by
    unfold mx0
    rcases List.mem_cons.mp h with e | h
    · subst e
      split <;> omega
    · have ih := le_mx0 h
      split <;> omega
theorem mx0_mem : ∀ {l : List Int}, l ≠ [] → (∀ x ∈ l, 0 ≤ x) → mx0 l ∈ l
  | [x], _, hp => by
    have h1 := hp x (List.mem_cons_self ..)
    have e : mx0 [x] = x := by
      show (if (0 : Int) ≤ x then x else 0) = x
      rw [if_pos h1]
    rw [e]
    exact List.mem_cons_self ..
  | x :: y :: l, _, hp => by
    have ih := mx0_mem (l := y :: l) (by simp) fun z hz => hp z (List.mem_cons_of_mem _ hz)
    have e : mx0 (x :: y :: l) = if mx0 (y :: l) ≤ x then x else mx0 (y :: l) := rfl
    rw [e]
    split
    · exact List.mem_cons_self ..
    · exact List.mem_cons_of_mem _ ih
theorem mx0_eq {l : List Int} {m : Int} (hp : ∀ x ∈ l, 0 ≤ x) (hm : m ∈ l) (hle : ∀ y ∈ l, y ≤ m) : m = mx0 l := by
  have h1 := le_mx0 hm
  have h2 := hle _ (mx0_mem (List.ne_nil_of_mem hm) hp)
  omega
theorem mx0_mono {l l' : List Int} (hp : ∀ x ∈ l', 0 ≤ x) (h : ∀ x ∈ l, ∃ y ∈ l', x ≤ y) : mx0 l ≤ mx0 l' := by
  induction l with
  | nil =>
    have := mx0_nonneg hp
    simpa [mx0] using this
  | cons x l ih =>
    obtain ⟨y, hy, hxy⟩ := h x (List.mem_cons_self ..)
    have h1 := le_mx0 hy
    have h2 := ih fun z hz => h z (List.mem_cons_of_mem _ hz)
    show (if mx0 l ≤ x then x else mx0 l) ≤ mx0 l'
    split <;> omega
/-! ### neighbours -/
def Adj {α : Type} (R : α → α → Prop) (l : List α) : Prop := ∀ (i : Nat) (a b : α), l[i]? = some a → l[i + 1]? = some b → R a b
theorem Adj.nil {α : Type} {R : α → α → Prop} : Adj R [] := fun i a b h => by simp at h
theorem Adj.one {α : Type} {R : α → α → Prop} {x : α} : Adj R [x] := fun i a b _ h => by simp at h
theorem Adj.cons {α : Type} {R : α → α → Prop} {x y : α} {l : List α} (h : R x y) (t : Adj R (y :: l)) : Adj R (x :: y :: l) := fun i a b h1 h2 => by
  cases i with
  | zero =>
    simp at h1 h2
    subst h1 h2
    exact h
  | succ i => exact t i a b (by simpa using h1) (by simpa using h2)
theorem Adj.tail {α : Type} {R : α → α → Prop} {x : α} {l : List α} (t : Adj R (x :: l)) : Adj R l := fun i a b h1 h2 => t (i + 1) a b (by simpa using h1) (by simpa using h2)
theorem Adj.head {α : Type} {R : α → α → Prop} {x y : α} {l : List α} (t : Adj R (x :: y :: l)) : R x y := t 0 x y rfl rfl
theorem Adj.snoc {α : Type} {R : α → α → Prop} {l : List α} {b : α} (t : Adj R l) (h : ∀ a, l.getLast? = some a → R a b) : Adj R (l ++ [b]) := fun i x y h1 h2 => by
  by_cases hi : i + 1 < l.length
  · rw [List.getElem?_append_left (by omega)] at h1
    rw [List.getElem?_append_left hi] at h2
    exact t i x y h1 h2
  · have hl : i + 1 = l.length := by
      have := (List.getElem?_eq_some_iff.mp h2).1
      rw [List.length_append, List.length_singleton] at this
      omega
    rw [List.getElem?_append_left (by omega)] at h1
    rw [List.getElem?_append_right (by omega), hl] at h2
    simp at h2
    subst h2
    refine h x ?_
    rw [List.getLast?_eq_getElem?, ← hl]
    exact h1
theorem Adj.map {α β : Type} {R : α → α → Prop} {S : β → β → Prop} {f : α → β} {l : List α} (t : Adj R l) (h : ∀ a b, R a b → S (f a) (f b)) : Adj S (l.map f) := fun i x y h1 h2 => by
  rw [List.getElem?_map] at h1 h2
  obtain ⟨a, ha, rfl⟩ := Option.map_eq_some_iff.mp h1
  obtain ⟨b, hb, rfl⟩ := Option.map_eq_some_iff.mp h2
  exact h a b (t i a b ha hb)
/-! ### tasks -/
section
variable {N : Type} [DecidableEq N]
def costOf (ks : List (N × Int × Int)) (n : N) : Int := ((ks.find? fun k => decide (k.1 = n)).map (·.2.1)).getD 0
def dlOf (ks : List (N × Int × Int)) (n : N) : Int := ((ks.find? fun k => decide (k.1 = n)).map (·.2.2)).getD 0
theorem find_of : ∀ {ks : List (N × Int × Int)} {k : N × Int × Int}, (ks.map (·.1)).Nodup → k ∈ ks → ks.find? (fun q => decide (q.1 = k.1)) = some k
  | q :: ks, k, hn, hm => by
    obtain ⟨h1, h2⟩ := List.nodup_cons.mp (show (q.1 :: ks.map (·.1)).Nodup from hn)
    rcases List.mem_cons.mp hm with e | hm
    · subst e
      rw [List.find?_cons_of_pos (by simp)]
    · have hne : ¬ q.1 = k.1 := fun e => h1 (by rw [e]; exact List.mem_map.mpr ⟨k, hm, rfl⟩)
      rw [List.find?_cons_of_neg (by simp [hne])]
      exact find_of h2 hm
theorem costOf_of {ks : List (N × Int × Int)} {k : N × Int × Int} (hn : (ks.map (·.1)).Nodup) (hm : k ∈ ks) : costOf ks k.1 = k.2.1 := by
  unfold costOf
  rw [find_of hn hm]
  rfl
theorem dlOf_of {ks : List (N × Int × Int)} {k : N × Int × Int} (hn : (ks.map (·.1)).Nodup) (hm : k ∈ ks) : dlOf ks k.1 = k.2.2 := by
  unfold dlOf
  rw [find_of hn hm]
  rfl
/-- numbers that the sums need -/
structure Sane (ks : List (N × Int × Int)) (as : List (N × N × Int)) : Prop where
  nd : (ks.map (·.1)).Nodup
  pos : ∀ k ∈ ks, 1 ≤ k.2.1 ∧ 1 ≤ k.2.2
  gap : ∀ a ∈ as, 1 ≤ a.2.2
  snd : ∀ a ∈ as, a.2.1 ∈ ks.map (·.1)
  fst : ∀ a ∈ as, a.1 ∈ ks.map (·.1)
variable {ks : List (N × Int × Int)} {as : List (N × N × Int)}
theorem find_prop {ks : List (N × Int × Int)} {n : N} {k : N × Int × Int} (h : ks.find? (fun q => decide (q.1 = n)) = some k) : k ∈ ks := List.mem_of_find?_eq_some h
theorem costOf_nonneg (h : ∀ k ∈ ks, 1 ≤ k.2.1 ∧ 1 ≤ k.2.2) (n : N) : 0 ≤ costOf ks n := by
  unfold costOf
  cases e : ks.find? (fun q => decide (q.1 = n)) with
  | none => simp
  | some k =>
    have := (h k (find_prop e)).1
    show 0 ≤ k.2.1
    omega
theorem dlOf_nonneg (h : ∀ k ∈ ks, 1 ≤ k.2.1 ∧ 1 ≤ k.2.2) (n : N) : 0 ≤ dlOf ks n := by
  unfold dlOf
  cases e : ks.find? (fun q => decide (q.1 = n)) with
  | none => simp
  | some k =>
    have := (h k (find_prop e)).2
    show 0 ≤ k.2.2
    omega
def own (ks : List (N × Int × Int)) (n : N) (t : Int) : Int := if dlOf ks n ≤ t then costOf ks n else 0
/-- the arrows that may be followed -/
def outs (as : List (N × N × Int)) (n : N) (t : Int) : List (N × N × Int) := as.filter fun a => decide (a.1 = n) && decide (a.2.2 ≤ t)
def dem (ks : List (N × Int × Int)) (as : List (N × N × Int)) : Nat → N → Int → Int
  | 0, _, _ => 0
  | k + 1, n, t => own ks n t + mx0 ((outs as n t).map fun a => dem ks as k a.2.1 (t - a.2.2))
/-- the demand of a kind -/
def f (ks : List (N × Int × Int)) (as : List (N × N × Int)) (n : N) (t : Int) : Int := dem ks as (t.toNat + 1) n t
/-- the demand of a task -/
def td (ks : List (N × Int × Int)) (as : List (N × N × Int)) (t : Int) : Int := mx0 (ks.map fun k => f ks as k.1 t)
theorem mem_outs {n : N} {t : Int} {a : N × N × Int} : a ∈ outs as n t ↔ a ∈ as ∧ a.1 = n ∧ a.2.2 ≤ t := by
  unfold outs
  rw [List.mem_filter]
  simp
theorem own_nonneg (h : ∀ k ∈ ks, 1 ≤ k.2.1 ∧ 1 ≤ k.2.2) (n : N) (t : Int) : 0 ≤ own ks n t := by
  unfold own
  have := costOf_nonneg h n
  split <;> omega
theorem dem_nonneg (h : ∀ k ∈ ks, 1 ≤ k.2.1 ∧ 1 ≤ k.2.2) : ∀ (k : Nat) (n : N) (t : Int), 0 ≤ dem ks as k n t
  | 0, _, _ => by simp [dem]
  | k + 1, n, t => by
    have h1 := own_nonneg h n t
    have h2 : 0 ≤ mx0 ((outs as n t).map fun a => dem ks as k a.2.1 (t - a.2.2)) := mx0_nonneg fun x hx => by
      obtain ⟨a, _, rfl⟩ := List.mem_map.mp hx
      exact dem_nonneg h k _ _
    unfold dem
    omega
theorem f_nonneg (h : ∀ k ∈ ks, 1 ≤ k.2.1 ∧ 1 ≤ k.2.2) (n : N) (t : Int) : 0 ≤ f ks as n t := dem_nonneg h _ _ _
theorem dem_fuel (hg : ∀ a ∈ as, 1 ≤ a.2.2) : ∀ (k k' : Nat) (n : N) (t : Int), 0 ≤ t → t.toNat < k → t.toNat < k' → dem ks as k n t = dem ks as k' n t
  | 0, _, _, _, _, h, _ => absurd h (Nat.not_lt_zero _)
  | _ + 1, 0, _, _, _, _, h => absurd h (Nat.not_lt_zero _)
  | k + 1, k' + 1, n, t, ht, h1, h2 => by
    unfold dem
    have e : (outs as n t).map (fun a => dem ks as k a.2.1 (t - a.2.2)) = (outs as n t).map fun a => dem ks as k' a.2.1 (t - a.2.2) :=
      List.map_congr_left fun a ha => by
        obtain ⟨m1, _, m3⟩ := mem_outs.mp ha
        have := hg a m1
        exact dem_fuel hg k k' _ _ (by omega) (by omega) (by omega)
    rw [e]
/-- the equation of the demand -/
theorem f_eq (hg : ∀ a ∈ as, 1 ≤ a.2.2) (n : N) {t : Int} (ht : 0 ≤ t) : f ks as n t = own ks n t + mx0 ((outs as n t).map fun a => f ks as a.2.1 (t - a.2.2)) := by
  have e : (outs as n t).map (fun a => dem ks as t.toNat a.2.1 (t - a.2.2)) = (outs as n t).map fun a => f ks as a.2.1 (t - a.2.2) :=
    List.map_congr_left fun a ha => by
      obtain ⟨m1, _, m3⟩ := mem_outs.mp ha
      have := hg a m1
      exact dem_fuel hg _ _ _ _ (by omega) (by omega) (by omega)
  show own ks n t + mx0 ((outs as n t).map fun a => dem ks as t.toNat a.2.1 (t - a.2.2)) = _
  rw [e]
theorem own_mono (h : ∀ k ∈ ks, 1 ≤ k.2.1 ∧ 1 ≤ k.2.2) (n : N) {t t' : Int} (ht : t ≤ t') : own ks n t ≤ own ks n t' := by
  have := costOf_nonneg h n
  unfold own
  split <;> split <;> omega
theorem dem_mono (h : ∀ k ∈ ks, 1 ≤ k.2.1 ∧ 1 ≤ k.2.2) : ∀ (k : Nat) (n : N) {t t' : Int}, t ≤ t' → dem ks as k n t ≤ dem ks as k n t'
  | 0, _, _, _, _ => by simp [dem]
  | k + 1, n, t, t', ht => by
    have h1 := own_mono h n ht
    have h2 : mx0 ((outs as n t).map fun a => dem ks as k a.2.1 (t - a.2.2)) ≤ mx0 ((outs as n t').map fun a => dem ks as k a.2.1 (t' - a.2.2)) := by
      refine mx0_mono (fun x hx => ?_) fun x hx => ?_
      · obtain ⟨a, _, rfl⟩ := List.mem_map.mp hx
        exact dem_nonneg h k _ _
      · obtain ⟨a, ha, rfl⟩ := List.mem_map.mp hx
        obtain ⟨m1, m2, m3⟩ := mem_outs.mp ha
        exact ⟨_, List.mem_map.mpr ⟨a, mem_outs.mpr ⟨m1, m2, by omega⟩, rfl⟩, dem_mono h k _ (by omega)⟩
    unfold dem
    omega
theorem f_mono (s : Sane ks as) (n : N) {t t' : Int} (h0 : 0 ≤ t) (ht : t ≤ t') : f ks as n t ≤ f ks as n t' := by
  have h1 := dem_mono (as := as) s.pos (t'.toNat + 1) n ht
  have h2 := dem_fuel (ks := ks) s.gap (t.toNat + 1) (t'.toNat + 1) n t h0 (by omega) (by omega)
  unfold f
  omega
theorem td_nonneg (h : ∀ k ∈ ks, 1 ≤ k.2.1 ∧ 1 ≤ k.2.2) (t : Int) : 0 ≤ td ks as t := mx0_nonneg fun x hx => by
  obtain ⟨a, _, rfl⟩ := List.mem_map.mp hx
  exact f_nonneg h _ _
theorem f_le_td {n : N} (hn : n ∈ ks.map (·.1)) (t : Int) : f ks as n t ≤ td ks as t := by
  obtain ⟨k, hk, rfl⟩ := List.mem_map.mp hn
  exact le_mx0 (List.mem_map.mpr ⟨k, hk, rfl⟩)
theorem td_mono (s : Sane ks as) {t t' : Int} (h0 : 0 ≤ t) (ht : t ≤ t') : td ks as t ≤ td ks as t' := by
  refine mx0_mono (fun x hx => ?_) fun x hx => ?_
  · obtain ⟨a, _, rfl⟩ := List.mem_map.mp hx
    exact f_nonneg s.pos _ _
  · obtain ⟨a, ha, rfl⟩ := List.mem_map.mp hx
    exact ⟨_, List.mem_map.mpr ⟨a, ha, rfl⟩, f_mono s _ h0 ht⟩
/-! ### a walk: jobs (name, release, cost) -/
def JobOk (ks : List (N × Int × Int)) (g : Int) (j : N × Int × Int) : Prop := j.1 ∈ ks.map (·.1) ∧ 0 ≤ j.2.1 ∧ 1 ≤ j.2.2 ∧ j.2.2 ≤ costOf ks j.1 * g
def Step (as : List (N × N × Int)) (g : Int) (i j : N × Int × Int) : Prop := ∃ gap, (i.1, j.1, gap) ∈ as ∧ gap * g ≤ j.2.1 - i.2.1
structure WalkOk (ks : List (N × Int × Int)) (as : List (N × N × Int)) (g : Int) (w : List (N × Int × Int)) : Prop where
  job : ∀ j ∈ w, JobOk ks g j
  adj : Adj (Step as g) w
def due (ks : List (N × Int × Int)) (g : Int) (j : N × Int × Int) : Int := j.2.1 + dlOf ks j.1 * g
/-- the costs of the jobs that are due until b -/
def untilB (ks : List (N × Int × Int)) (g b : Int) (w : List (N × Int × Int)) : Int := ((w.filter fun j => decide (due ks g j ≤ b)).map (·.2.2)).sum
/-- .. and released from a on -/
def fromA (ks : List (N × Int × Int)) (g a b : Int) (w : List (N × Int × Int)) : Int := ((w.filter fun j => decide (a ≤ j.2.1) && decide (due ks g j ≤ b)).map (·.2.2)).sum
theorem untilB_cons {g b : Int} {j : N × Int × Int} {w : List (N × Int × Int)} : untilB ks g b (j :: w) = (if due ks g j ≤ b then j.2.2 else 0) + untilB ks g b w := by
  unfold untilB
  by_cases h : due ks g j ≤ b
  · rw [List.filter_cons_of_pos (by simpa using h), List.map_cons, List.sum_cons, if_pos h]
  · rw [List.filter_cons_of_neg (by simpa using h), if_neg h]
    omega
theorem fromA_cons {g a b : Int} {j : N × Int × Int} {w : List (N × Int × Int)} : fromA ks g a b (j :: w) = (if a ≤ j.2.1 ∧ due ks g j ≤ b then j.2.2 else 0) + fromA ks g a b w := by
  unfold fromA
  by_cases h : a ≤ j.2.1 ∧ due ks g j ≤ b
  · rw [List.filter_cons_of_pos (by simpa using h), List.map_cons, List.sum_cons, if_pos h]
  · rw [List.filter_cons_of_neg (by simpa using h), if_neg h]
    omega
theorem WalkOk.tail {g : Int} {j : N × Int × Int} {w : List (N × Int × Int)} (h : WalkOk ks as g (j :: w)) : WalkOk ks as g w := ⟨fun x hx => h.job x (List.mem_cons_of_mem _ hx), h.adj.tail⟩
theorem div_le {a g d : Int} (hg : 0 < g) (h : d * g ≤ a) : d ≤ a / g := Int.le_ediv_of_mul_le hg h
theorem rel_le (s : Sane ks as) {g : Int} (hg : 0 < g) : ∀ {w : List (N × Int × Int)} {j : N × Int × Int}, WalkOk ks as g (j :: w) → ∀ x ∈ j :: w, j.2.1 ≤ x.2.1
  | [], j, _, x, hx => by
    have : x = j := by simpa using hx
    subst this
    exact Int.le_refl _
  | y :: w, j, h, x, hx => by
    rcases List.mem_cons.mp hx with e | hx
    · subst e
      exact Int.le_refl _
    · have h1 := rel_le s hg h.tail x hx
      obtain ⟨gap, hm, hle⟩ := h.adj.head
      have h2 := s.gap _ hm
      have h3 : 0 ≤ gap * g := Int.mul_nonneg (by simp only at h2; omega) (Int.le_of_lt hg)
      omega
theorem untilB_le (s : Sane ks as) {g b : Int} (hg : 0 < g) : ∀ {w : List (N × Int × Int)} {j : N × Int × Int}, WalkOk ks as g (j :: w) →
    untilB ks g b (j :: w) ≤ g * (if j.2.1 ≤ b then f ks as j.1 ((b - j.2.1) / g) else 0)
  | w, j, h => by
    obtain ⟨hn, hr, hc1, hc2⟩ := h.job j (List.mem_cons_self ..)
    have hdl := dlOf_nonneg s.pos j.1
    have hdg : 0 ≤ dlOf ks j.1 * g := Int.mul_nonneg hdl (Int.le_of_lt hg)
    by_cases hb : j.2.1 ≤ b
    · rw [if_pos hb]
      have ht : 0 ≤ (b - j.2.1) / g := Int.ediv_nonneg (by omega) (Int.le_of_lt hg)
      have hown : (if due ks g j ≤ b then j.2.2 else 0) ≤ g * own ks j.1 ((b - j.2.1) / g) := by
        by_cases hd : due ks g j ≤ b
        · have : dlOf ks j.1 ≤ (b - j.2.1) / g := div_le hg (by unfold due at hd; omega)
          unfold own
          rw [if_pos hd, if_pos this, Int.mul_comm]
          exact hc2
        · rw [if_neg hd]
          exact Int.mul_nonneg (Int.le_of_lt hg) (own_nonneg s.pos _ _)
      have hrest : untilB ks g b w ≤ g * mx0 ((outs as j.1 ((b - j.2.1) / g)).map fun a => f ks as a.2.1 ((b - j.2.1) / g - a.2.2)) := by
        have hpos : 0 ≤ mx0 ((outs as j.1 ((b - j.2.1) / g)).map fun a => f ks as a.2.1 ((b - j.2.1) / g - a.2.2)) := mx0_nonneg fun x hx => by
          obtain ⟨a, _, rfl⟩ := List.mem_map.mp hx
          exact f_nonneg s.pos _ _
        cases w with
        | nil =>
          show (0 : Int) ≤ _
          exact Int.mul_nonneg (Int.le_of_lt hg) hpos
        | cons y w =>
          have ih := untilB_le s (b := b) hg h.tail
          refine Int.le_trans ih (Int.mul_le_mul_of_nonneg_left ?_ (Int.le_of_lt hg))
          by_cases hy : y.2.1 ≤ b
          · rw [if_pos hy]
            obtain ⟨gap, hm, hle⟩ := h.adj.head
            have h0 : 0 ≤ (b - y.2.1) / g := Int.ediv_nonneg (by omega) (Int.le_of_lt hg)
            have h1 : (b - y.2.1) / g + gap ≤ (b - j.2.1) / g := by
              refine div_le hg ?_
              have e := Int.ediv_mul_le (b - y.2.1) (Int.ne_of_gt hg)
              rw [Int.add_mul]
              omega
            refine Int.le_trans (f_mono s y.1 h0 (t' := (b - j.2.1) / g - gap) (by omega)) ?_
            exact le_mx0 (List.mem_map.mpr ⟨(j.1, y.1, gap), mem_outs.mpr ⟨hm, rfl, by simp only; omega⟩, rfl⟩)
          · rw [if_neg hy]
            exact hpos
      rw [untilB_cons, f_eq s.gap j.1 ht, Int.mul_add]
      omega
    · rw [if_neg hb, Int.mul_zero, untilB_cons]
      have h1 : ¬ due ks g j ≤ b := by unfold due; omega
      rw [if_neg h1]
      cases w with
      | nil => show (0 : Int) + 0 ≤ 0; omega
      | cons y w =>
        have ih := untilB_le s (b := b) hg h.tail
        have h2 := rel_le s hg h y (by simp)
        rw [if_neg (by omega), Int.mul_zero] at ih
        omega
theorem fromA_all {g a b : Int} : ∀ {w : List (N × Int × Int)}, (∀ x ∈ w, a ≤ x.2.1) → fromA ks g a b w = untilB ks g b w
  | [], _ => rfl
  | j :: w, h => by
    have h1 := h j (List.mem_cons_self ..)
    have ih := fromA_all (g := g) (b := b) (w := w) fun x hx => h x (List.mem_cons_of_mem _ hx)
    rw [fromA_cons, untilB_cons, ih]
    by_cases hd : due ks g j ≤ b
    · rw [if_pos ⟨h1, hd⟩, if_pos hd]
    · rw [if_neg (fun z => hd z.2), if_neg hd]
/-- THE BOUND of one walk -/
theorem fromA_le (s : Sane ks as) {g a b : Int} (hg : 0 < g) (hab : a ≤ b) : ∀ {w : List (N × Int × Int)}, WalkOk ks as g w → fromA ks g a b w ≤ g * td ks as ((b - a) / g)
  | [], _ => by
    show (0 : Int) ≤ _
    exact Int.mul_nonneg (Int.le_of_lt hg) (td_nonneg s.pos _)
  | j :: w, h => by
    by_cases ha : a ≤ j.2.1
    · rw [fromA_all fun x hx => Int.le_trans ha (rel_le s hg h x hx)]
      refine Int.le_trans (untilB_le s hg h) (Int.mul_le_mul_of_nonneg_left ?_ (Int.le_of_lt hg))
      by_cases hb : j.2.1 ≤ b
      · rw [if_pos hb]
        have h0 : 0 ≤ (b - j.2.1) / g := Int.ediv_nonneg (by omega) (Int.le_of_lt hg)
        have h1 : (b - j.2.1) / g ≤ (b - a) / g := Int.ediv_le_ediv hg (by omega)
        exact Int.le_trans (f_le_td (h.job j (List.mem_cons_self ..)).1 _) (td_mono s h0 h1)
      · rw [if_neg hb]
        exact td_nonneg s.pos _
    · rw [fromA_cons, if_neg (fun z => ha z.1)]
      have := fromA_le s hg hab h.tail
      omega
/-! ### the heavy walk: (name, release) -/
structure Heavy (ks : List (N × Int × Int)) (as : List (N × N × Int)) (T : Int) (w : List (N × Int)) (n : N) (left : Int) : Prop where
  h0 : 0 ≤ left
  hT : left ≤ T
  len : (w.length : Int) ≤ T - left
  nm : n ∈ ks.map (·.1)
  mem : ∀ j ∈ w, j.1 ∈ ks.map (·.1) ∧ 0 ≤ j.2 ∧ j.2 ≤ T
  adj : Adj (fun i j : N × Int => (i.1, j.1, j.2 - i.2) ∈ as) (w ++ [(n, T - left)])
  sum : untilB ks 1 T ((w ++ [(n, T - left)]).map fun j => (j.1, j.2, costOf ks j.1)) + (f ks as n left - own ks n left) = td ks as T
theorem untilB_app {g b : Int} : ∀ {u w : List (N × Int × Int)}, untilB ks g b (u ++ w) = untilB ks g b u + untilB ks g b w
  | [], w => by
    show untilB ks g b w = 0 + untilB ks g b w
    omega
  | j :: u, w => by
    rw [List.cons_append, untilB_cons, untilB_cons, untilB_app]
    omega
theorem untilB_one {T left : Int} {n : N} : untilB ks 1 T [(n, T - left, costOf ks n)] = own ks n left := by
  rw [untilB_cons]
  show (if due ks 1 (n, T - left, costOf ks n) ≤ T then costOf ks n else 0) + 0 = own ks n left
  unfold own due
  simp only
  by_cases h : dlOf ks n ≤ left
  · rw [if_pos h, if_pos (by omega)]
    omega
  · rw [if_neg h, if_neg (by omega)]
    omega
theorem Heavy.start {T : Int} {n : N} (hT : 0 ≤ T) (hn : n ∈ ks.map (·.1)) (hf : f ks as n T = td ks as T) : Heavy ks as T [] n T := by
  refine ⟨hT, Int.le_refl _, by simp, hn, fun j hj => by simp at hj, Adj.one, ?_⟩
  show untilB ks 1 T [(n, T - T, costOf ks n)] + _ = _
  rw [untilB_one, hf]
  omega
theorem Heavy.next (s : Sane ks as) {T left gap : Int} {w : List (N × Int)} {n m : N} (h : Heavy ks as T w n left) (ha : (n, m, gap) ∈ as) (hg : gap ≤ left)
    (hm : f ks as m (left - gap) = mx0 ((outs as n left).map fun a => f ks as a.2.1 (left - a.2.2))) : Heavy ks as T (w ++ [(n, T - left)]) m (left - gap) := by
  have h1 := s.gap _ ha
  have h0 := h.h0
  have hT := h.hT
  have hl := h.len
  simp only at h1
  refine ⟨by omega, by omega, by rw [List.length_append, List.length_singleton]; omega, s.snd _ ha, fun j hj => ?_, ?_, ?_⟩
  · rcases List.mem_append.mp hj with hj | hj
    · exact h.mem j hj
    · have e : j = (n, T - left) := by simpa using hj
      subst e
      exact ⟨h.nm, by simp only; omega, by simp only; omega⟩
  · refine Adj.snoc h.adj fun a hl => ?_
    rw [List.getLast?_append] at hl
    simp at hl
    subst hl
    have e : T - (left - gap) - (T - left) = gap := by omega
    show (n, m, T - (left - gap) - (T - left)) ∈ as
    rw [e]
    exact ha
  · rw [List.map_append, untilB_app]
    show _ + untilB ks 1 T [(m, T - (left - gap), costOf ks m)] + _ = _
    rw [untilB_one, hm]
    have e1 := h.sum
    rw [f_eq s.gap n h0] at e1
    omega
theorem Heavy.stop (s : Sane ks as) {T left : Int} {w : List (N × Int)} {n : N} (h : Heavy ks as T w n left) (hm : mx0 ((outs as n left).map fun a => f ks as a.2.1 (left - a.2.2)) = 0) :
    untilB ks 1 T ((w ++ [(n, T - left)]).map fun j => (j.1, j.2, costOf ks j.1)) = td ks as T := by
  have e1 := h.sum
  rw [f_eq s.gap n h.h0] at e1
  omega
theorem Heavy.walk (s : Sane ks as) {T left : Int} {w : List (N × Int)} {n : N} (h : Heavy ks as T w n left) : WalkOk ks as 1 ((w ++ [(n, T - left)]).map fun j => (j.1, j.2, costOf ks j.1)) := by
  have h0 := h.h0
  have hT := h.hT
  refine ⟨fun j hj => ?_, h.adj.map fun a b q => ⟨_, q, by simp only; omega⟩⟩
  obtain ⟨i, hi, rfl⟩ := List.mem_map.mp hj
  have hi' : i.1 ∈ ks.map (·.1) ∧ 0 ≤ i.2 := by
    rcases List.mem_append.mp hi with hi | hi
    · exact ⟨(h.mem i hi).1, (h.mem i hi).2.1⟩
    · have e : i = (n, T - left) := by simpa using hi
      subst e
      exact ⟨h.nm, by simp only; omega⟩
  obtain ⟨k, hk, e⟩ := List.mem_map.mp hi'.1
  refine ⟨hi'.1, hi'.2, ?_, by simp only; omega⟩
  show 1 ≤ costOf ks i.1
  rw [← e, costOf_of s.nd hk]
  exact (s.pos k hk).1
end
end WD
/-! Rules that the layer lacks: list(d.values()), max(xs, default=0), d = {k: v for ..} at a local name, sorted(xs, key=lambda row: (row[3], row[0], row[1])). -/
namespace WD
open PySem PySem.Spec PyProof.Rows L2
section
variable {X : Cx}
/-! ### list(o.values()) -/
def tListVals (td : TE) : TE := fun σ H Q => td σ H fun x H1 => ∃ a kvs, x = V.ref a ∧ H1 a = some (.dK kvs) ∧ ∀ q, H1 q = none → Q (.ref q) (upd H1 q (.lst (kvs.map (·.2))))
theorem kv_vals {κ : Type} : ∀ {kvs : List (κ × V)} {vs : List (κ × Value)}, KV kvs vs → Vals (kvs.map (·.2)) (vs.map (·.2))
  | _, _, .nil => .nil
  | _, _, .cons r t => .cons r.2 (kv_vals t)
theorem pe_listVals {o : Expr} {p pos apos mpos : Pos} {td : TE} (hc : X.calm = true) (hg : Gl X "list") (hm : X.mg "list" = none) (hd : PE X o td) (hbase : attributeBase o "values" X.env (eval o X.env) = eval o X.env := by rfl) (hline : (apos.endLine == mpos.line) = true := by rfl)
    (na : starEach [Expr.Call (.Attribute o "values" apos) [] [] mpos] X.env = (false, eval (Expr.Call (.Attribute o "values" apos) [] [] mpos) X.env) :: starEach [] X.env := by rfl) :
    PE X (.Call (.Name "list" p) [.Call (.Attribute o "values" apos) [] [] mpos] [] pos) (tListVals td) := by
  refine ⟨fun pins s σ H Q I h => ?_⟩
  refine Call_ (ld_blt I hg hm boot_list (PyProof.Rows.callWith_type1 (args_cons (wpAny_Call_method0_late hbase hline (thn (hd.run pins s σ H _ I h) fun v s1 ⟨x, H1, I1, r1, a, kvs, ex, ha, q⟩ => ?_)) na) na))
  subst ex
  obtain rfl : v = Value.ref a := r1
  obtain ⟨hz, hsys, vs, rel, dof⟩ := dk_of I1.hok ha
  obtain ⟨ep, dat⟩ := dof.dictAt
  have dat' := dat
  obtain ⟨ob, es, ho, ex, hdat, hko, hpr, hnd⟩ := dat'
  refine ⟨"dict", "dict.values", F.plainAttrs_dict, F.slot_dict_values, F.type_dict_values, ⟨ob, ho, ex.1⟩, fun b e => ?_, Calls.callWith_builtin rfl (PySem.evalArgs_none ?_)⟩
  · cases e
    exact ⟨ob, ho, ex.2.1⟩
  refine call_meetsIn F.slot_dict_values ⟨ob, ho, ex.1⟩ F.entry_dict_values (F.args_dict_values_1 _) (meets_dict_values (mixKind X.prog X.w) a hsys) ⟨⟨vs, dof⟩, ?_⟩
  refine args_nil ?_
  have k1 : ∀ b u, s1.heap.get? b = some u → (s1.heap.push { cls := .type "dict_values", data := .fields #[.ref a] }).get? b = some u := fun b u e => Heap.get?_push_of_some _ e
  have dat1 : (s1.heap.push { cls := .type "dict_values", data := .fields #[.ref a] }).DictAt (mixKind X.prog X.w) a vs ep := dat.keep k1
  have I2 : Inv X pins σ H1 { s1 with heap := s1.heap.push { cls := .type "dict_values", data := .fields #[.ref a] } } := I1.kept (t' := s1.toks) k1
  have hl : kvs.length = vs.length := KV.length rel
  refine PySem.W.kdl_call (s := { s1 with heap := s1.heap.push { cls := .type "dict_values", data := .fields #[.ref a] } }) (r := s1.heap.objs.size) (PySem.W.kdl_values (knd := mixKind X.prog X.w) (kvs := vs) (ep := ep)) (I2.ok.hd hc) ⟨⟨_, Heap.get?_push_size _ rfl, rfl, rfl⟩, dat1⟩ (by rw [← hl]; exact hz) fun h' tk acc' c' hkeep hS hacc => ?_
  have el : acc'.toList.length = acc'.size := by simp
  have ev : acc'.toList = vs.map (·.2) := PySem.W.kdl_vals_eq acc'.toList (by rw [el]; exact hacc.1) fun j u hu => hacc.2 j u (by rw [← Array.getElem?_toList]; exact hu)
  have rv : Vals (kvs.map (·.2)) acc'.toList := by rw [ev]; exact kv_vals rel
  exact ⟨.ref _, _, I2.laid (t' := tk) hkeep (Nat.le_refl _) (show ObjOk X.prog X.w _ _ _ (.lst (kvs.map (·.2))) from ⟨by rw [List.length_map]; exact hz, acc'.toList, c', rv, by rw [Array.toArray_toList]; exact hS⟩), rfl, q _ (I2.hok.fresh (Nat.le_refl _))⟩
/-! ### max(xs, default=d) of ints -/
def rMaxDflt (K : PySem.W.Frag) : List V → List V → Hp → VK → Prop := fun vs zs H Q => ∃ (a : Addr) (ns : List Int) (d : V), vs = [V.ref a] ∧ zs = [d] ∧ SqL K H a (ns.map V.int) ∧ (ns = [] → Q d H) ∧ (ns ≠ [] → ∀ m, m ∈ ns → (∀ y, y ∈ ns → y ≤ m) → Q (.int m) H)
theorem reads_ints {h : Heap} : ∀ {its : List Value} {ns : List Int}, IntsAre its ns → ∃ as, ReadsAll h its (ns.map PyData.int) as
  | _, _, .nil => ⟨_, .nil⟩
  | _, _, .cons n t r => by
    obtain ⟨as, q⟩ := reads_ints (h := h) r
    exact ⟨_, .cons (.int n t) q⟩
theorem depth_ints : ∀ ns : List Int, PyData.depthAll (ns.map PyData.int) = 0
  | [] => by simp [PyData.depthAll]
  | n :: ns => by simp [PyData.depthAll, PyData.depth, depth_ints ns]
theorem foldmax : ∀ (ns : List Int) (n : Int), (ns.foldl max n) ∈ n :: ns ∧ ∀ y ∈ n :: ns, y ≤ ns.foldl max n
  | [], n => ⟨List.mem_cons_self .., fun y hy => by
    have e : y = n := by simpa using hy
    rw [e]
    exact Int.le_refl _⟩
  | a :: ns, n => by
    obtain ⟨h1, h2⟩ := foldmax ns (max n a)
    refine ⟨?_, fun y hy => ?_⟩
    · show ns.foldl max (max n a) ∈ _
      rcases List.mem_cons.mp h1 with e | e
      · rw [e]
        by_cases hna : n ≤ a
        · rw [Int.max_eq_right hna]
          simp
        · rw [Int.max_eq_left (by omega)]
          simp
      · exact List.mem_cons_of_mem _ (List.mem_cons_of_mem _ e)
    · show y ≤ ns.foldl max (max n a)
      have h3 := h2 (max n a) (List.mem_cons_self ..)
      rcases List.mem_cons.mp hy with e | hy
      · subst e
        have := Int.le_max_left y a
        omega
      · rcases List.mem_cons.mp hy with e | hy
        · subst e
          have := Int.le_max_right n y
          omega
        · exact h2 y (List.mem_cons_of_mem _ hy)
theorem alike_ints (ns : List Int) : PySem.W.AlikeAll (ns.map PyData.int) := by
  refine ⟨fun x hx y hy => ?_, fun x hx => ?_⟩
  · obtain ⟨a, _, rfl⟩ := List.mem_map.mp hx
    obtain ⟨b, _, rfl⟩ := List.mem_map.mp hy
    simp [PySem.W.alike]
  · obtain ⟨a, _, rfl⟩ := List.mem_map.mp hx
    exact fun z => by cases z
theorem cr_maxDflt {k : Nat} (hc : X.calm = true) (hr : Room k X.A) : CallRK X (.builtin "max") [Str.ofString "default"] (rMaxDflt X.K) := by
  intro pins s σ H vs zs us ws Q I r rz h
  obtain ⟨a, ns, d, rfl, rfl, hs, q0, q1⟩ := h
  obtain ⟨its, rv, hl, _⟩ := I.list hs
  obtain rfl := Vals.ref1 r
  obtain ⟨w1, rfl, e1⟩ := vals1 rz
  obtain ⟨as, hra⟩ := reads_ints (h := s.heap) rv.ints
  have hun := hr.un
  refine PySem.W.max_list_default (A := X.A) (I.ok.hd hc) hl.isList (xs := ns.map PyData.int) (as := as) (by simpa using hra) (alike_ints ns) (by rw [depth_ints]; omega) (fun e h' tk hk => ?_) fun y ys i v h' tk bs e hv hr' hk => ?_
  · have e2 : ns = [] := List.map_eq_nil_iff.mp e
    exact ⟨d, H, I.kept hk, e1, q0 e2⟩
  · cases ns with
    | nil => cases e
    | cons n ns =>
      cases e
      rw [PySem.W.maxD_ints] at hr'
      cases hr'
      obtain ⟨h1, h2⟩ := foldmax ns n
      exact ⟨.int _, H, I.kept hk, ⟨_, rfl⟩, q1 (by simp) _ h1 h2⟩
/-! ### name = {k: v for ..} on one line, the name a local -/
theorem ps_setDc {i : Nat} {y : Str} {py : Pos} {kx vx tg iter : Expr} {ifs : List Expr} {scope : Scope} {own : List (Str × Nat)} {pos spos : Pos} {wi : TI} {g : TG} {tt : TT} {tk tv : TE} (hc : X.calm = true) (hN : X.N.Nodup) (hy : X.N[i]? = some y) (hyl : X.env.scope.names.lookup y = some .local)
    (hsw : swapsWith (.DictComp kx vx [⟨tg, iter, ifs, 0⟩] scope pos) (some (.Name y py)) spos.line X.env = pure true) (hi : PI X tg iter wi) (ok : BlkOk X.N X.env.scope scope own)
    (hg : ∀ (s : Shared) (H : Hp) (C : Addr) (cl : List (Str × Addr)) (fp : List Addr), PG (X.blk s H scope (compEnvC scope cl C X.env) fp) tg g) (ht : ∀ (s : Shared) (H : Hp) (C : Addr) (cl : List (Str × Addr)) (fp : List Addr), PTs (X.blk s H scope (compEnvC scope cl C X.env) fp) ifs tt)
    (hk : ∀ (s : Shared) (H : Hp) (C : Addr) (cl : List (Str × Addr)) (fp : List Addr), PE (X.blk s H scope (compEnvC scope cl C X.env) fp) kx tk)
    (he : ∀ (s : Shared) (H : Hp) (C : Addr) (cl : List (Str × Addr)) (fp : List Addr), PE (X.blk s H scope (compEnvC scope cl C X.env) fp) vx tv) (hs : ∀ x, foldedSetIterable iter X.env x = pure x := by intro _; rfl) :
    PS X (.Assign [.Name y py] (.DictComp kx vx [⟨tg, iter, ifs, 0⟩] scope pos) spos) (tAsg (tDc wi g tt tk tv (own.map (·.2))) (gName i)) := by
  refine ⟨fun pins s σ H D I h => ?_⟩
  rw [exec_Assign_Name_used _ _ _ _ hsw]
  refine wpAny_bind (wpAny_standAt (wpAny_bind ?_))
  show wpAny _ X.A (do let _ ← comprehension (.DictComp kx vx [⟨tg, iter, ifs, 0⟩] scope pos) scope X.env (firstIterPos [⟨tg, iter, ifs, 0⟩] pos) newDict false (eval iter X.env) (some (assign (.Name y py) X.env))) _ _ s
  have h : tDc wi g tt tk tv (own.map (·.2)) σ H (fun x H1 => gName i x σ H1 D.nx) := h
  refine wpAny_bind (thn (dc_core (Qf := fun _ s' => SP X pins D .next s') hc hN I hi ok hg ht hk he hs h fun L C s' m H' I' q hn f => ?_) fun _ s' hq => wpAny_pure (wpAny_pure hq))
  show wpAny _ _ (assign (.Name y py) X.env (.ref L)) _ _ _
  refine wpAny_assign_Name (store_ok2 (v := V.ref L) I' hN hy (.inl hyl) rfl (fun s2 I2 ⟨a, sb, ha⟩ => ?_) (.inr hyl))
  obtain ⟨f0, f1, f2, f3, f4, f5⟩ := f
  have haC : C ≠ a := by
    rcases ha with z | z
    · rw [z]; exact f1
    · exact fun e => f4 y a z e.symm
  refine ⟨m, hn.sameBut sb haC, fun h3 sb3 => ?_⟩
  exact ⟨_, H', I2.turned (t' := s2.toks) (fun b o hb e => (sb3.2 b hb).trans e) f0 f1 f3 f4 f5, q⟩
theorem sw_trueD {kx vx : Expr} {gs : List Comprehension} {scope : Scope} {pos py : Pos} {y : Str} {l : Nat} {env : Env} (hk : env.scope.kind = .function) (hy : env.scope.names.lookup y = some .local) (hl : (py.line == pos.line) = true)
    (ha : (scope.names.any fun (n, k) => n == y && (k == .local || k == .cell)) = false) : swapsWith (.DictComp kx vx gs scope pos) (some (.Name y py)) l env = pure true := by
  have ky : env.kindOf y = some .local := hy
  have hb : env.blockKind = .function := by unfold Env.blockKind; rw [hk]; rfl
  unfold swapsWith
  simp only [hb, ky, ha, Expr.pos, hl]
  rfl
end
end WD
namespace WD
open PySem PySem.Spec PyProof.Rows L2
/-! ### sorted(rows, key=lambda row: (row[3], row[0], row[1])) -/
/-- a row of a run: its tuple's address; task, place, kind, release, cost, due -/
structure Rw where
  t : Addr
  i : Int
  p : Int
  n : Str
  r : Int
  c : Int
  d : Int
def Rw.vals (x : Rw) : List V := [.int x.i, .int x.p, .str x.n, .int x.r, .int x.c, .int x.d]
def Rw.key (x : Rw) : PyData := .tuple [.int x.r, .int x.i, .int x.p]
def lamBody (p1 p2 p3 p4 p5 p6 p7 p8 p9 p10 : Pos) (k1 k2 k3 k4 : Nat) : Expr :=
  .Tuple [.Subscript (.Name "row" p1) (.Constant (.int 3) k1 p2) p3, .Subscript (.Name "row" p4) (.Constant (.int 0) k2 p5) p6, .Subscript (.Name "row" p7) (.Constant (.int 1) k3 p8) p9] k4 p10
def lamScope : Scope := { kind := .function, names := [(PySem.Str.ofString "row", .local)], isGenerator := false, isCoroutine := false, more := [] }
def lamArgs (p : Pos) : Arguments := { posonlyargs := [], args := [{ arg := "row", annotation := none, pos := p }], vararg := none, kwonlyargs := [], kw_defaults := [], kwarg := none, defaults := [] }
section
variable {prog : Program} {w : World} {A : Around} {E : Value → Shared → Prop} {s : Shared}
theorem lam_item {env : Env} {m : Str → Option Value} {t : Addr} {l : List Value} {j : Nat} {x : Value} {k : Nat} {p1 p2 p3 : Pos} {Q : Value → Shared → Prop} (hk : env.scope = lamScope) (hn : s.heap.Ns env.locals m) (hm : m "row" = some (.ref t)) (ht : IsTup s.heap t l.toArray)
    (hj : j < 2 ^ 62) (hx : l[j]? = some x) (h : ∀ tk, Q x { s with toks := tk }) : wpAny (model prog w) A (eval (.Subscript (.Name "row" p1) (.Constant (.int (j : Int)) k p2) p3) env) Q E s := by
  have hl : j < l.length := (List.getElem?_eq_some_iff.mp hx).1
  refine Subscript_ (wpAny_Name (wpAny_loadName_local (by rw [hk]; rfl) (by unfold Env.kindOf; rw [hk]; rfl) hn hm (wpAny_Constant_int ?_)))
  refine item_tupleL (l := l) (j := j) ht (by omega) (by omega) ?_ hx (h _)
  unfold seqIndex?
  simp
  omega
theorem lam_body {env : Env} {m : Str → Option Value} {t : Addr} {a b z f g e : Value} {p1 p2 p3 p4 p5 p6 p7 p8 p9 p10 : Pos} {k1 k2 k3 k4 : Nat} {Q : Value → Shared → Prop} (hk : env.scope = lamScope) (hn : s.heap.Ns env.locals m) (hm : m "row" = some (.ref t))
    (ht : IsTup s.heap t [a, b, z, f, g, e].toArray) (h : ∀ tk, Q (.ref s.heap.objs.size) { s with heap := s.heap.push { cls := .type "tuple", data := .seq [f, a, b].toArray }, toks := tk }) :
    wpAny (model prog w) A (eval (lamBody p1 p2 p3 p4 p5 p6 p7 p8 p9 p10 k1 k2 k3 k4) env) Q E s := by
  unfold lamBody
  refine wpAny_Tuple_spliced ?_
  refine args_cons (lam_item (j := 3) (x := f) hk hn hm ht (by decide) rfl fun t1 => ?_) (by rfl)
  refine args_cons (lam_item (s := { s with toks := t1 }) (j := 0) (x := a) hk hn hm ht (by decide) rfl fun t2 => ?_) (by rfl)
  refine args_cons (lam_item (s := { s with toks := t2 }) (j := 1) (x := b) hk hn hm ht (by decide) rfl fun t3 => ?_) (by rfl)
  exact args_nil ⟨by rw [sizeLine_eq]; show 3 ≤ 16777216; decide, h t3⟩
theorem lam_call {f t c' : Addr} {q : Str} {pm ctv : Value} {pp p1 p2 p3 p4 p5 p6 p7 p8 p9 p10 : Pos} {k1 k2 k3 k4 : Nat} {its : List Value} {x : Rw} (hroom : A.depth < recursionLimit) (hlim : s.heap.NoLimit)
    (hf : s.heap.get? f = some (PySem.W.kla_obj "<lambda>" q (lamArgs pp) (lamBody p1 p2 p3 p4 p5 p6 p7 p8 p9 p10 k1 k2 k3 k4) lamScope [] pm c' ctv)) (hc : ∃ (oc : Obj) (vs : Array Value) (t : Tok), s.heap.get? c' = some oc ∧ oc.data = .fields vs ∧ vs[1]? = some (.str q t))
    (ht : IsTup s.heap t its.toArray) (rv : Vals x.vals its) : wpAny (model prog w) A (call (.ref f) [.ref t]) (PySem.W.KeyPure x.key s) (fun _ _ => False) s := by
  obtain ⟨oc, vs, tq, hoc, hdc, hq⟩ := hc
  refine wpAny_call (PySem.W.kla_callFunE hroom hf rfl rfl rfl rfl ⟨c', oc, vs, tq, rfl, hoc, hdc, hq⟩ ?_)
  have hb : bindArgs (PySem.W.kla_fn "<lambda>" q (lamArgs pp) (lamBody p1 p2 p3 p4 p5 p6 p7 p8 p9 p10 k1 k2 k3 k4) lamScope [] pm (.ref c') ctv) ⟨[Value.ref t], []⟩ = pure ([(("row" : Str), Value.ref t)] : List (Str × Value)) := by rfl
  rw [hb]
  refine wpAny_pure (wpAny_newFunctionEnv (fun y hy => ?_) (fun y hy => ?_) (fun h₁ hns hsb => ⟨hlim.fresh _ hsb, ?_⟩) rfl)
  · have e : y = (PySem.Str.ofString "row", NameKind.local) := by simpa [lamScope] using hy
    rw [e]
    exact fun z => by cases z
  · have e : y = (("row" : Str), Value.ref t) := by simpa using hy
    rw [e]
    rfl
  refine PySem.W.kla_codeExpr ?_
  have kp : ∀ b o, s.heap.get? b = some o → h₁.get? b = some o := fun b o e => hsb.extBut b o (Nat.ne_of_lt (Heap.lt_size e)) (Heap.get?_push_of_some _ e)
  cases x with
  | mk t0 i p n r c d =>
    cases rv with
    | cons r1 rv => cases rv with
      | cons r2 rv => cases rv with
        | cons r3 rv => cases rv with
          | cons r4 rv => cases rv with
            | cons r5 rv => cases rv with
              | cons r6 rv =>
                cases rv
                obtain ⟨u1, rfl⟩ := r1
                obtain ⟨u2, rfl⟩ := r2
                obtain ⟨u4, rfl⟩ := r4
                refine lam_body (m := fun x => [(("row" : Str), Value.ref t)].reverse.lookup x) rfl hns rfl (ht.keeps kp) fun tk => ?_
                refine ⟨_, _, rfl, fun b o e => Heap.get?_push_of_some _ (kp b o e), ?_⟩
                refine Reads.tuple (Heap.get?_push_size _ rfl) rfl rfl (as := []) ?_
                exact .cons (.int r u4) (.cons (.int i u1) (.cons (.int p u2) .nil))
end
def tSortRows (K : PySem.W.Frag) (T : List (Addr × Str)) (t : TA) : TE := fun σ H Q => t σ H fun vs H1 => ∃ (l : Addr) (rs : List Rw), vs = [V.ref l] ∧ SqL K H1 l (rs.map fun x => V.ref x.t) ∧ (∀ x ∈ rs, H1 x.t = some (.tup x.vals)) ∧ LamX.Tabs T H1 ∧
  ∀ (H2 : Hp) (rs' : List Rw) (q : Addr), LamX.ExtN H1 H2 → LamX.Tabs T H2 → H2 q = none → rs'.Perm rs → Q (.ref q) (upd H2 q (.lst (rs'.map fun x => V.ref x.t)))
theorem each_rows : ∀ {rs : List Rw} {us : List Value}, Vals (rs.map fun x => V.ref x.t) us → PySem.W.EachIs (fun (v : Value) (x : Rw) => v = Value.ref x.t) us rs
  | [], _, .nil => .nil
  | _ :: _, _, .cons r t => .cons r (each_rows t)
theorem vals_rows : ∀ {us : List Value} {rs : List Rw}, PySem.W.EachIs (fun (v : Value) (x : Rw) => v = Value.ref x.t) us rs → Vals (rs.map fun x => V.ref x.t) us
  | _, _, .nil => .nil
  | _, _, .cons r t => .cons r (vals_rows t)
section
variable {X : Cx}
theorem pe_sortRows {k : Nat} {T : List (Addr × Str)} {c P : Addr} {e : Expr} {ta : TA} {kp lpos p pos pp p1 p2 p3 p4 p5 p6 p7 p8 p9 p10 : Pos} {k1 k2 k3 k4 : Nat} (hr : Room k X.A) (hg : Gl X "sorted") (hm : X.mg "sorted" = none) (ha : PA X [e] ta)
    (TB : LamX.TabB X.base X.mg c P) (hcode : X.env.code = .ref c) (hmT : (P, X.env.qual ++ "<lambda>") ∈ T) (hu : ∀ p ∈ T, p.1 = P → p.2 = X.env.qual ++ "<lambda>") (hdef : defaultsOf (lamArgs pp) X.env = ([], []) := by rfl)
    (he : backTo pos (starEach [e] X.env) = (false, eval e X.env) :: backTo pos (starEach [] X.env) := by rfl) (hpl : (backTo pos (starEach [e] X.env)).any (·.1) = false := by rfl) :
    PE X (.Call (.Name "sorted" p) [e] [⟨some "key", .Lambda (lamArgs pp) (lamBody p1 p2 p3 p4 p5 p6 p7 p8 p9 p10 k1 k2 k3 k4) lamScope lpos, kp⟩] pos) (tSortRows X.K T ta) := by
  refine ⟨fun pins s σ H Q I h => ?_⟩
  refine wpAny_Call_Name_kw (ld_blt I hg hm (u := .builtin "sorted") (by decide +kernel) ?_ (by decide) (by decide))
  refine PyProof.Rows.callWith_kw (thn (ha.run pos pins s σ H _ I h) fun us s1 ⟨vs, H1, I1, r1, l, rs, ev, hs, hrs, hT, q⟩ => ?_) he hpl rfl rfl
  subst ev
  obtain rfl := Vals.ref1 r1
  show wpAny _ _ (evalAll [do let v ← eval (.Lambda (lamArgs pp) (lamBody p1 p2 p3 p4 p5 p6 p7 p8 p9 p10 k1 k2 k3 k4) lamScope lpos) X.env; standAt pos; pure v]) _ _ _
  refine wpAny_evalAll_cons (wpAny_bind (LamX.lam_make2 I1 TB hcode hmT hu hT hdef (fun y hy ez => ?_) fun f c' pm ctv H2 s2 I2 eN T2 hf hfn hfr hco => wpAny_bind (wpAny_standAt (wpAny_pure (wpAny_evalAll_nil ?_)))))
  · have e1 : y = (PySem.Str.ofString "row", NameKind.local) := by simpa [lamScope] using hy
    rw [e1] at ez
    cases ez
  show wpAny _ _ (call (.builtin "sorted") [.ref l] [(Str.ofString "key", .ref f)]) _ _ s2
  have hs2 : SqL X.K H2 l (rs.map fun x => V.ref x.t) := by
    rcases hs with (z | ⟨o, z⟩) | z
    · exact .inl (.inl (eN _ _ z fun ps w => by cases w))
    · exact .inl (.inr ⟨o, eN _ _ z fun ps w => by cases w⟩)
    · exact .inr z
  have hrs2 : ∀ x ∈ rs, H2 x.t = some (.tup x.vals) := fun x hx => eN _ _ (hrs x hx) fun ps w => by cases w
  obtain ⟨its, rv, hl, hz⟩ := I2.list hs2
  obtain ⟨⟨oc, cvs, ct, hoc, hdc, hq⟩, _, _⟩ := I2.hok c' _ hco
  have hrd := hr.dp
  have hru := hr.un
  have hcl : L2.cloFrom X.env.cells lamScope.names [] = [] := rfl
  rw [hcl] at hf
  refine PySem.W.sorted_key_data (b := false) (R := fun (v : Value) (x : Rw) => v = Value.ref x.t) Rw.key hl.isList (each_rows rv) (fun x hx y hy => ?_) (.inl fun x hx => ?_) (by rw [List.length_map] at hz; exact hz) (fun x _ => ?_) (ksk_s1 _ _) (fun _ => ksk_l1 _ _) (fun _ => ksk_t1 _ _)
    (fun v x hR hx h tk kph => ?_) fun out cc h' tk kph _ hD hlen eo => ?_
  · obtain ⟨a, _, rfl⟩ := List.mem_map.mp hx
    obtain ⟨b, _, rfl⟩ := List.mem_map.mp hy
    simp [PySem.W.alike, PySem.W.alikeAll, Rw.key]
  · obtain ⟨a, _, rfl⟩ := List.mem_map.mp hx
    exact ⟨_, _, rfl⟩
  · have hd : x.key.depth = 1 := by simp [Rw.key, PyData.depth, PyData.depthAll]
    omega
  · have hR : v = Value.ref x.t := hR
    subst hR
    obtain ⟨_, itx, rx, htx⟩ := (show ObjOk X.prog X.w H2 s2.heap x.t (.tup x.vals) from I2.hok _ _ (hrs2 x hx))
    exact lam_call (A := X.A.in1.in1) (s := { s2 with heap := h, toks := tk }) (t := x.t) (x := x) (show X.A.depth < recursionLimit by omega) (I2.nolimit.keeps kph) (kph _ _ hf) ⟨oc, cvs, ct, kph _ _ hoc, hdc, hq⟩ (htx.keeps kph) rx
  · have hp : (rs.mergeSort (PySem.W.dataLe false Rw.key)).Perm rs := List.mergeSort_perm _ _
    have rvo := vals_rows eo
    have hlo : ((rs.mergeSort (PySem.W.dataLe false Rw.key)).map fun x => V.ref x.t).length ≤ sizeLine := by
      rw [List.length_map, hp.length_eq]
      rw [List.length_map] at hz
      exact hz
    exact ⟨.ref _, _, I2.laid (t' := tk) kph (Nat.le_succ _) (show ObjOk X.prog X.w _ _ _ (.lst ((rs.mergeSort (PySem.W.dataLe false Rw.key)).map fun x => V.ref x.t)) from ⟨hlo, out, cc, rvo, hD⟩), rfl, q H2 _ _ eN T2 (I2.hok.fresh (Nat.le_succ _)) hp⟩
end
end WD
/-! The heap's words: what stays, what is new; rows of tuples; tasks. -/
namespace WD
open PySem PySem.Spec PyProof.Rows L2
def top (i : Nat) : Stmt := PySem.Challenge.pw_walkdues_k19_whole_no_run_asks_more.main.body.getD i (.Pass ⟨0, 0, 0, 0⟩)
/-! ### lists in step -/
inductive All2 {α β : Type} (R : α → β → Prop) : List α → List β → Prop
  | nil : All2 R [] []
  | cons {a : α} {b : β} {l : List α} {m : List β} (h : R a b) (t : All2 R l m) : All2 R (a :: l) (b :: m)
section
variable {α β : Type} {R S : α → β → Prop}
theorem All2.length : ∀ {l : List α} {m : List β}, All2 R l m → l.length = m.length
  | _, _, .nil => rfl
  | _, _, .cons _ t => congrArg Nat.succ t.length
theorem All2.get : ∀ {l : List α} {m : List β} {i : Nat} {a : α}, All2 R l m → l[i]? = some a → ∃ b, m[i]? = some b ∧ R a b
  | _, _, _, _, .nil, e => by simp at e
  | _, _, 0, _, .cons h _, e => by simp at e; subst e; exact ⟨_, rfl, h⟩
  | _, _, i + 1, a, .cons _ t, e => by
    obtain ⟨b, h1, h2⟩ := All2.get (i := i) (a := a) t (by simpa using e)
    exact ⟨b, by simpa using h1, h2⟩
theorem All2.get' : ∀ {l : List α} {m : List β} {i : Nat} {b : β}, All2 R l m → m[i]? = some b → ∃ a, l[i]? = some a ∧ R a b
  | _, _, _, _, .nil, e => by simp at e
  | _, _, 0, _, .cons h _, e => by simp at e; subst e; exact ⟨_, rfl, h⟩
  | _, _, i + 1, b, .cons _ t, e => by
    obtain ⟨a, h1, h2⟩ := All2.get' (i := i) (b := b) t (by simpa using e)
    exact ⟨a, by simpa using h1, h2⟩
theorem All2.mono : ∀ {l : List α} {m : List β}, All2 R l m → (∀ a b, R a b → S a b) → All2 S l m
  | _, _, .nil, _ => .nil
  | _, _, .cons h t, f => .cons (f _ _ h) (t.mono f)
theorem All2.app : ∀ {l l' : List α} {m m' : List β}, All2 R l m → All2 R l' m' → All2 R (l ++ l') (m ++ m')
  | _, _, _, _, .nil, h => h
  | _, _, _, _, .cons h t, h' => .cons h (t.app h')
theorem All2.snoc {l : List α} {m : List β} {a : α} {b : β} (h : All2 R l m) (r : R a b) : All2 R (l ++ [a]) (m ++ [b]) := h.app (.cons r .nil)
end
/-! ### what stays, what is new -/
/-- all that was tracked stays, but for the two at p and q, which stay tracked -/
structure Grow (p q : Addr) (H H' : Hp) : Prop where
  keep : ∀ b o, b ≠ p → b ≠ q → H b = some o → H' b = some o
  dom : ∀ b, H b ≠ none → H' b ≠ none
theorem ne_none {H : Hp} {a : Addr} {o : HO} (h : H a = some o) : H a ≠ none := by rw [h]; simp
theorem Grow.refl {p q : Addr} {H : Hp} : Grow p q H H := ⟨fun _ _ _ _ h => h, fun _ h => h⟩
theorem Grow.trans {p q : Addr} {H H1 H2 : Hp} (a : Grow p q H H1) (b : Grow p q H1 H2) : Grow p q H H2 := ⟨fun c o h1 h2 h => b.keep c o h1 h2 (a.keep c o h1 h2 h), fun c h => b.dom c (a.dom c h)⟩
theorem same_dom {H H' : Hp} (s : Same H H') : ∀ b, H b ≠ none → H' b ≠ none := fun b h => by
  cases e : H b with
  | none => exact absurd e h
  | some o => rw [s b o e]; simp
theorem Grow.of {p q : Addr} {H H' : Hp} (s : Same H H') : Grow p q H H' := ⟨fun b o _ _ h => s b o h, same_dom s⟩
/-- a write at a place that was free at the start, or at p or q -/
theorem Grow.upd {p q a : Addr} {H H' : Hp} {o : HO} (g : Grow p q H H') (h : H a = none ∨ a = p ∨ a = q) : Grow p q H (upd H' a o) := by
  refine ⟨fun b u h1 h2 e => ?_, fun b e => ?_⟩
  · have hb : b ≠ a := fun z => by
      subst z
      rcases h with h | h | h
      · rw [h] at e; cases e
      · exact h1 h
      · exact h2 h
    rw [upd_ne hb]
    exact g.keep b u h1 h2 e
  · by_cases hb : b = a
    · subst hb; rw [upd_same]; simp
    · rw [upd_ne hb]; exact g.dom b e
theorem same_up {a : Addr} {H H' : Hp} {o : HO} (g : Same H H') (h : H a = none) : Same H (upd H' a o) := fun b u e => by
  rw [upd_ne (ne_of_none e h)]
  exact g b u e
/-- what is new in H' -/
def newer (H H' : Hp) : Hp := fun b => match H b with
  | none => H' b
  | some _ => none
theorem newer_sub (H H' : Hp) : Same (newer H H') H' := fun b o h => by
  unfold newer at h
  cases e : H b with
  | none => rw [e] at h; exact h
  | some u => rw [e] at h; cases h
theorem newer_at {H H' : Hp} {a : Addr} {o : HO} (h : H a = none) (h' : H' a = some o) : newer H H' a = some o := by
  unfold newer
  rw [h]
  exact h'
theorem newer_none {H H' : Hp} {a : Addr} {o : HO} (h : newer H H' a = some o) : H a = none := by
  unfold newer at h
  cases e : H a with
  | none => rfl
  | some u => rw [e] at h; cases h
/-- what was new stays new behind more of the same -/
theorem newer_grow {p q : Addr} {H H' H'' : Hp} (g : Grow p q H' H'') (hp : H p ≠ none) (hq : H q ≠ none) : Same (newer H H') (newer H H'') := fun b o h => by
  have hb := newer_none h
  exact newer_at hb (g.keep b o (fun z => hp (by rw [← z]; exact hb)) (fun z => hq (by rw [← z]; exact hb)) (newer_sub _ _ b o h))
theorem newer_same {H H' H'' : Hp} (g : Same H' H'') : Same (newer H H') (newer H H'') := fun b o h => newer_at (newer_none h) (g b o (newer_sub _ _ b o h))
/-- new to a larger heap: new to the smaller -/
theorem newer_dom {H H1 H2 : Hp} (d : ∀ b, H b ≠ none → H1 b ≠ none) : Same (newer H1 H2) (newer H H2) := fun b o h => by
  have h1 := newer_none h
  have h0 : H b = none := by
    cases e : H b with
    | none => rfl
    | some u => exact absurd h1 (d b (by rw [e]; simp))
  exact newer_at h0 (newer_sub _ _ b o h)
/-- a write at what was there is not seen -/
theorem newer_upd {H H' : Hp} {a : Addr} {o : HO} (h : H a ≠ none) : Same (newer H H') (newer H (upd H' a o)) := fun b u e => by
  have hb := newer_none e
  refine newer_at hb ?_
  rw [upd_ne (fun z => h (by rw [← z]; exact hb))]
  exact newer_sub _ _ b u e
theorem newer_upd' {H H' : Hp} {a : Addr} {o : HO} (h : H a ≠ none) : Same (newer H H') (upd H' a o) := (newer_upd h).trans (newer_sub _ _)
theorem same_upd {H : Hp} {a : Addr} {o : HO} (h : H a = none) : Same H (upd H a o) := same_up (Same.refl H) h
/-! ### rows of tuples -/
/-- a tuple -/
def IsT (G : Hp) (v : V) (xs : List V) : Prop := ∃ a, v = V.ref a ∧ G a = some (.tup xs)
abbrev Rows (G : Hp) : List V → List (List V) → Prop := All2 (IsT G)
/-- a list of tuples -/
def LRows (G : Hp) (l : Addr) (xss : List (List V)) : Prop := ∃ vs, G l = some (.lst vs) ∧ Rows G vs xss
theorem IsT.keeps {G G' : Hp} {v : V} {xs : List V} (h : IsT G v xs) (s : Same G G') : IsT G' v xs := by
  obtain ⟨a, e, h⟩ := h
  exact ⟨a, e, s _ _ h⟩
theorem Rows.keeps {G G' : Hp} {vs : List V} {xss : List (List V)} (h : Rows G vs xss) (s : Same G G') : Rows G' vs xss := h.mono fun _ _ q => q.keeps s
theorem LRows.keeps {G G' : Hp} {l : Addr} {xss : List (List V)} (h : LRows G l xss) (s : Same G G') : LRows G' l xss := by
  obtain ⟨vs, h1, h2⟩ := h
  exact ⟨vs, s _ _ h1, Rows.keeps h2 s⟩
/-- tuples stand through any write to what is no tuple -/
theorem Rows.up {G : Hp} {vs : List V} {xss : List (List V)} {a : Addr} {o u : HO} (h : Rows G vs xss) (ha : G a = some u) (hu : ∀ xs, u ≠ .tup xs) : Rows (L2.upd G a o) vs xss := h.mono fun _ _ ⟨b, e, hb⟩ => ⟨b, e, by
  rw [upd_ne (ne_of hb ha (fun z => hu _ z.symm))]
  exact hb⟩
def kv (k : Str × Int × Int) : List V := [.str k.1, .int k.2.1, .int k.2.2]
def av (a : Str × Str × Int) : List V := [.str a.1, .str a.2.1, .int a.2.2]
/-! ### a task -/
def tf (nm : Str) (lk la : Addr) : List (Str × V) := putF "arrow_rows" (.ref la) (putF "kind_rows" (.ref lk) (putF "name" (.str nm) []))
def TaskAt (C : Addr) (G : Hp) (a : Addr) (ks : List (Str × Int × Int)) (as : List (Str × Str × Int)) : Prop := ∃ dx nm lk la, G a = some (.ins C dx (tf nm lk la)) ∧ LRows G lk (ks.map kv) ∧ LRows G la (as.map av)
theorem TaskAt.keeps {C : Addr} {G G' : Hp} {a : Addr} {ks : List (Str × Int × Int)} {as : List (Str × Str × Int)} (h : TaskAt C G a ks as) (s : Same G G') : TaskAt C G' a ks as := by
  obtain ⟨dx, nm, lk, la, h1, h2, h3⟩ := h
  exact ⟨dx, nm, lk, la, s _ _ h1, h2.keeps s, h3.keeps s⟩
/-! ### names -/
def letters : Str := "abcdefghijklmnopqrstuvwxyz"
def others : Str := "0123456789_"
def NameOk (z : Str) : Prop := 1 ≤ z.length ∧ z.length ≤ 12 ∧ (∃ c, z.cps.toList[0]? = some c ∧ c ∈ letters.cps.toList) ∧ ∀ c ∈ z.cps.toList, c ∈ letters.cps.toList ∨ c ∈ others.cps.toList
/-- a task's numbers and names -/
structure TaskOk (ks : List (Str × Int × Int)) (as : List (Str × Str × Int)) : Prop where
  nd : (ks.map (·.1)).Nodup
  k1 : 1 ≤ ks.length
  k4 : ks.length ≤ 4
  nm : ∀ k ∈ ks, NameOk k.1
  rg : ∀ k ∈ ks, 1 ≤ k.2.1 ∧ k.2.1 ≤ (if as = [] then 99 else 9) ∧ 1 ≤ k.2.2 ∧ k.2.2 ≤ (if as = [] then 99 else 24)
  a12 : as.length ≤ 12
  ag : ∀ a ∈ as, 1 ≤ a.2.2 ∧ a.2.2 ≤ 12
  fs : ∀ a ∈ as, a.1 ∈ ks.map (·.1) ∧ a.2.1 ∈ ks.map (·.1)
  and : (as.map fun a => (a.1, a.2.1)).Nodup
theorem TaskOk.sane {ks : List (Str × Int × Int)} {as : List (Str × Str × Int)} (t : TaskOk ks as) : Sane ks as :=
  ⟨t.nd, fun k hk => ⟨(t.rg k hk).1, (t.rg k hk).2.2.1⟩, fun a ha => (t.ag a ha).1, fun a ha => (t.fs a ha).2, fun a ha => (t.fs a ha).1⟩
/-! ### a def called by its name -/
structure Cal (P : Program) (w : World) (K : PySem.W.Frag) (mg : Str → Option Value) (base : Heap) (x : Str) (k : Nat) (ps : List Str) (sp : Sp) : Prop where
  ex : ∃ f fd, FnOk P w K mg base CX0 k f fd ps sp ∧ mg x = some (.ref f) ∧ PySem.W.keepIn K (.ref f) = true ∧ Binds K fd ps []
theorem pc {X : Cx} {x : Str} {k k' : Nat} {ps : List Str} {sp : Sp} {p pos : Pos} {e : Expr} {es : List Expr} {t : TA} (c : Cal X.prog X.w X.K X.mg X.base x k ps sp) (hr : Room k' X.A) (ha : PA X (e :: es) t) (hk : k ≤ k' := by decide) (hg : Gl X x := by rfl)
    (hdb : (x == ("__debug__" : Str)) = false := by decide) (he : starEach (e :: es) X.env = (false, eval e X.env) :: starEach es X.env := by rfl) (hpl : (backTo pos (starEach es X.env)).any (·.1) = false := by rfl) :
    PE X (.Call (.Name x p) (e :: es) [] pos) (tCall sp [] E0 t) := by
  obtain ⟨f, fd, h1, h2, h3, h4⟩ := c.ex
  exact pe_call h1 (hr.mono hk) hg h2 h3 h4 .nil pass0 ha hdb he hpl
/-- a method -/
structure Clm (P : Program) (w : World) (K : PySem.W.Frag) (mg : Str → Option Value) (base : Heap) (C : Addr) (m : Str) (k : Nat) (ps : List Str) (sp : Sp) : Prop where
  ex : ∃ f fd, FnOk P w K mg base CX0 k f fd ps sp ∧ Meth K C m f ∧ Binds K fd ps []
/-! ### what the module's names stand for -/
structure Gs (mg : Str → Option Value) : Prop where
  len : mg "len" = none
  sum : mg "sum" = none
  max : mg "max" = none
  min : mg "min" = none
  all : mg "all" = none
  int : mg "int" = none
  list : mg "list" = none
  sorted : mg "sorted" = none
  enum : mg "enumerate" = none
  range : mg "range" = none
  grain : ∃ t, mg "GRAIN_LIMIT" = some (.int 60 t)
  job : ∃ t, mg "JOB_LIMIT" = some (.int 400 t)
  let_ : ∃ t, mg "LETTERS" = some (.str letters t)
  oth : ∃ t, mg "OTHER_SIGNS" = some (.str others t)
  lng : ∃ t, mg "LONGEST_NAME" = some (.int 12 t)
  mkd : ∃ t, mg "MOST_KINDS" = some (.int 4 t)
  mar : ∃ t, mg "MOST_ARROWS" = some (.int 12 t)
  mgp : ∃ t, mg "MOST_GAP" = some (.int 12 t)
theorem pgl_int {X : Cx} {x : Str} {i : Int} {pos : Pos} (h : ∃ t, X.mg x = some (.int i t)) (hg : Gl X x := by rfl) (hd : (x == ("__debug__" : Str)) = false := by decide) : PE X (.Name x pos) (tC (.int i)) := by
  obtain ⟨t, h⟩ := h
  exact pe_glob hg h ⟨t, rfl⟩ hd
theorem pgl_str {X : Cx} {x z : Str} {pos : Pos} (h : ∃ t, X.mg x = some (.str z t)) (hg : Gl X x := by rfl) (hd : (x == ("__debug__" : Str)) = false := by decide) : PE X (.Name x pos) (tC (.str z)) := by
  obtain ⟨t, h⟩ := h
  exact pe_glob hg h ⟨t, rfl⟩ hd
/-! ### tests whose answer is known -/
theorem ifT {c : Bool} {A B : Prop} (hc : c = true) (h : A) : if c = true then A else B := by
  rw [if_pos hc]
  exact h
theorem ifF {c : Bool} {A B : Prop} (hc : c = false) (h : B) : if c = true then A else B := by
  rw [hc, if_neg Bool.false_ne_true]
  exact h
/-- a test of the shape that a wished truth has -/
theorem ifTB {c : Bool} {A B : Prop} (hc : c = true) (h : A) : if c then A else B := ifT hc h
/-! ### rules that name the written part outright (within a comprehension it must not hang on the block) -/
section
variable {X : Cx}
theorem ixT (K : PySem.W.Frag) (e : X.K = K := by rfl) : IxR X (rIxT K) := by subst e; exact ix_tup
theorem ixL (K : PySem.W.Frag) (e : X.K = K := by rfl) : IxR X (rIxL K) := by subst e; exact ix_list
theorem inS (K : PySem.W.Frag) (e : X.K = K := by rfl) : OpR X (compareOp .In) (rIn K false) := by subst e; exact op_in_seq
theorem ninS (K : PySem.W.Frag) (e : X.K = K := by rfl) : OpR X (compareOp .NotIn) (rIn K true) := by subst e; exact op_notIn_seq
theorem lenS (K : PySem.W.Frag) (e : X.K = K := by rfl) : CallR X (.builtin "len") (fun xs H Q => ∃ p ys, xs = [.ref p] ∧ (SqL K H p ys ∨ SqT K H p ys) ∧ Q (.int ys.length) H) := by subst e; exact call_len_seq
theorem lstS (K : PySem.W.Frag) (e : X.K = K := by rfl) : CallR X (.type "list") (fun xs H Q => ∃ p ys, xs = [.ref p] ∧ (SqL K H p ys ∨ SqT K H p ys) ∧ ∀ l, H l = none → Q (.ref l) (upd H l (.lst ys))) := by subst e; exact call_list_of
theorem sumS (K : PySem.W.Frag) (hc : X.calm = true := by rfl) (e : X.K = K := by rfl) : CallR X (.builtin "sum") (rSum K) := by subst e; exact cr_sum hc
theorem maxS (K : PySem.W.Frag) (hc : X.calm = true := by rfl) (e : X.K = K := by rfl) : CallR X (.builtin "max") (rMax K) := by subst e; exact cr_max hc
theorem piL (K : PySem.W.Frag) {tg l : Expr} {tl : TE} (hl : PE X l tl) (e : X.K = K := by rfl) : PI X tg l (iList K tl) := by subst e; exact pi_list hl
theorem pgT (K : PySem.W.Frag) {es : List Expr} {k : Nat} {t : TGs} {n : Nat} {pos : Pos} (h : PGs X es t) (hc : X.calm = true := by rfl) (e : X.K = K := by rfl) (hn : (assignEach es X.env).length = n := by rfl) (hst : (assignEach es X.env).findIdx? (·.1) = none := by rfl) : PG X (.Tuple es k pos) (gTup K n t) := by
  subst e
  exact pg_tup hc h hn hst
end
/-- a comprehension without tests -/
theorem lcy {J : It} {n : Nat} {G : Hp → Prop} {Y : Nat → Hp → V → Hp → Prop} (w : Walk J n G Y) {g : TG} {te : TE} {vs : List Nat} {σ : L2.St} {H1 : Hp} {D : Addr} {Qd : Hp → Prop} (Pv : Nat → Hp → Prop) (h0 : Pv 0 (L2.upd H1 D (.lst []))) (hG : ∀ i H, i ≤ n → Pv i H → G H)
    (hs : ∀ i x H H', i < n → Pv i H → Y i H x H' → g x (wipe σ vs) H' fun σ2 H2 => wipe σ2 vs = wipe σ vs ∧ te σ2 H2 fun y H4 => ∃ acc, H4 D = some (.lst acc) ∧ acc.length < sizeLine ∧ Pv (i + 1) (L2.upd H4 D (.lst (acc ++ [y])))) (hd : ∀ H, Pv n H → Qd H) :
    ∃ W : Nat → Nat → Hp → Prop, (∃ m, W 0 m (L2.upd H1 D (.lst []))) ∧ ∀ i m H, W i m H →
      (J.stop i H ∧ Qd H) ∨ (J.go i H ∧ ∃ Nx : Hp → Prop, (∀ H', Nx H' → ∃ m', m' < m ∧ W (i + 1) m' H') ∧ ∀ x H', J.yld i H x H' → g x (wipe σ vs) H' fun σ2 H2 => wipe σ2 vs = wipe σ vs ∧ tYes σ2 H2 fun b H3 =>
        if b = true then te σ2 H3 fun y H4 => ∃ acc, H4 D = some (.lst acc) ∧ acc.length < sizeLine ∧ Nx (L2.upd H4 D (.lst (acc ++ [y]))) else Nx H3) := by
  refine ⟨fun i m H => m = n - i ∧ i ≤ n ∧ Pv i H, ⟨n, by simp, Nat.zero_le _, h0⟩, ?_⟩
  rintro i m H ⟨rfl, hi, p⟩
  have q := hG i H hi p
  by_cases hlt : i < n
  · refine .inr ⟨w.goes i H hlt q, Pv (i + 1), fun H' p' => ⟨n - (i + 1), by omega, rfl, hlt, p'⟩, fun x H' y => ?_⟩
    exact hs i x H H' hlt p (w.yields i H x H' hlt q y)
  · have e : i = n := by omega
    subst e
    exact .inl ⟨w.stops H q, hd H p⟩
end WD
/-! is_name, need_name, need_range, need_kind -/
namespace WD
open PySem PySem.Spec PyProof.Rows L2
abbrev sIsName : Stmt := top 35
abbrev sNeedName : Stmt := top 36
abbrev sNeedRange : Stmt := top 37
abbrev sNeedKind : Stmt := top 38
def spIsName : Sp := fun vs H Q _ => ∃ z : Str, vs = [.str z] ∧ NameOk z ∧ ∀ H', Same H H' → Q (.bl true) H'
def spNeedName : Sp := fun vs H Q _ => ∃ z : Str, vs = [.str z] ∧ NameOk z ∧ ∀ H', Same H H' → Q .non H'
def spNeedRange : Sp := fun vs H Q _ => ∃ (z : Str) (x lo hi : Int), vs = [.str z, .int x, .int lo, .int hi] ∧ lo ≤ x ∧ x ≤ hi ∧ Q .non H
def spNeedKind : Sp := fun vs H Q _ => ∃ (z : Str) (l : Addr) (ks : List (Str × Int × Int)), vs = [.str z, .ref l] ∧ LRows H l (ks.map kv) ∧ z ∈ ks.map (·.1) ∧ ks.length ≤ 4 ∧ ∀ H', Same H H' → Q .non H'
section
variable {P : Program} {w : World} {K : PySem.W.Frag} {mg : Str → Option Value} {base : Heap}
theorem scIsName : FnScope ["text", "sign"] ["text"] (defScope sIsName) := ⟨rfl, rfl, rfl, by decide +kernel, rfl, by decide +kernel, by decide +kernel⟩
theorem len_small {z : Str} (h : z.length ≤ 12) : z.length ≤ sizeLine := by rw [sizeLine_eq]; omega
theorem ok_isName {f : Addr} {fd : FuncData} (F : Fun K "is_name" "is_name" sIsName f fd) (g : Gs mg) : FnOk P w K mg base CX0 1 f fd ["text"] spIsName := by
  refine F.ok scIsName (fun vs H Q E h => ?_) (fun cdv A outer s H vs Q E hr h => ?_)
  · obtain ⟨z, rfl, _⟩ := h
    rfl
  · obtain ⟨z, rfl, ⟨h1, h2, ⟨c0, hc0, hl0⟩, hall⟩, k⟩ := h
    refine ⟨_, pss_cons (ps_if (PW.pt (pw_or (pt_not (pt_chain op_le op_le pe_int (pe_callB call_len_str (by rfl) g.len PySem.boot_len (pa_cons (pv 0) pa_nil)) (pgl_int g.lng)))
        (pw_or1 (pt_cmpR op_notIn_sign (pe_ix ix_str (pv 0) pe_int (fun _ _ => rfl)) (pgl_str g.let_) (by rfl))))) (pss_one (ps_ret pe_bl)) pss_nil)
      (pss_one (ps_ret (pe_callB (cr_all rfl) (by rfl) g.all (by decide +kernel) (pa_cons (pe_lc (own := [("sign", 1)]) (g := gName 1) (tt := tYes) rfl scIsName.nd (pi_str (pv 0)) (blkOk_by (N := ["text", "sign"]) (sc := defScope sIsName) (by decide +kernel))
        (fun _ _ _ _ _ => pg_name (i := 1) scIsName.nd rfl (Or.inl rfl)) (fun _ _ _ _ _ => pts_nil) (fun _ _ _ _ _ => pe_or (pe_cmpR op_in_sign (pv 1) (pgl_str g.let_) (by rfl)) (pe_one (pe_cmpR op_in_sign (pv 1) (pgl_str g.oth) (by rfl))))) pa_nil)))), ?_⟩
    refine ⟨_, rfl, z, rfl, len_small h2, _, _, rfl, rfl, ?_⟩
    refine ⟨true, congrArg V.bl (decide_eq_true (by omega)), ifT rfl ?_⟩
    refine ⟨_, _, rfl, rfl, true, congrArg V.bl (decide_eq_true (by omega)), ifF rfl ?_⟩
    refine ⟨_, rfl, z, 0, c0, rfl, rfl, len_small h2, atI_nat hc0, c0, letters, rfl, rfl, false, congrArg V.bl (by rw [decide_eq_true hl0]; rfl), iteF ?_⟩
    -- all([..])
    refine ⟨_, rfl, z, rfl, fun D hD => lcy walk_str (fun i H' => Same H H' ∧ H' D = some (.lst ((List.replicate i true).map V.bl)) ∧ i ≤ 12) ⟨same_upd hD, upd_same, by omega⟩ (fun _ _ _ _ => trivial) ?_ ?_⟩
    · rintro i x H1 H1' hi ⟨s1, hL, _⟩ ⟨rfl, c, hc, rfl⟩
      have hi12 : i < 12 := by
        have e : z.cps.size = z.length := rfl
        omega
      have hmem : c ∈ z.cps.toList := by
        rw [← Array.getElem?_toList] at hc
        exact List.mem_of_getElem? hc
      have fin : Same H (upd H1' D (.lst ((List.replicate i true).map V.bl ++ [V.bl true]))) ∧ (upd H1' D (.lst ((List.replicate i true).map V.bl ++ [V.bl true]))) D = some (.lst ((List.replicate (i + 1) true).map V.bl)) ∧ i + 1 ≤ 12 := by
        refine ⟨same_up s1 hD, ?_, hi12⟩
        rw [upd_same, List.replicate_succ', List.map_append]
        rfl
      have hlen : ((List.replicate i true).map V.bl).length < sizeLine := by
        rw [List.length_map, List.length_replicate, sizeLine_eq]
        omega
      refine ⟨rfl, ?_⟩
      refine ⟨_, rfl, c, letters, rfl, rfl, _, rfl, ?_⟩
      rcases hall c hmem with hl | hl
      · refine ifT (decide_eq_true hl) ?_
        exact ⟨_, hL, hlen, fin⟩
      · by_cases hl' : c ∈ letters.cps.toList
        · refine ifT (decide_eq_true hl') ?_
          exact ⟨_, hL, hlen, fin⟩
        · refine ifF (decide_eq_false hl') ?_
          refine ⟨_, rfl, c, others, rfl, rfl, _, hL, hlen, ?_⟩
          rw [decide_eq_true hl]
          exact fin
    · rintro H1 ⟨s1, hL, _⟩
      refine ⟨_, List.replicate z.cps.size true, rfl, SqL.of hL, ?_⟩
      have e : (List.replicate z.cps.size true).all id = true := by
        rw [List.all_eq_true]
        intro b hb
        rw [(List.mem_replicate.mp hb).2]
        rfl
      rw [e]
      exact k _ s1
theorem scNeedName : FnScope ["text"] ["text"] (defScope sNeedName) := ⟨rfl, rfl, rfl, by decide +kernel, rfl, by decide +kernel, by decide +kernel⟩
theorem ok_needName {f : Addr} {fd : FuncData} (F : Fun K "need_name" "need_name" sNeedName f fd) (c : Cal P w K mg base "is_name" 1 ["text"] spIsName) : FnOk P w K mg base CX0 2 f fd ["text"] spNeedName := by
  refine F.ok scNeedName (fun vs H Q E h => ?_) (fun cdv A outer s H vs Q E hr h => ?_)
  · obtain ⟨z, rfl, _⟩ := h
    rfl
  · obtain ⟨z, rfl, hz, k⟩ := h
    refine ⟨_, pss_one (ps_if (pt_not (pt_val (pc c hr (pa_cons (pv 0) pa_nil)))) (pss_one ps_never) pss_nil), ?_⟩
    refine ⟨_, rfl, z, rfl, hz, fun H' s1 => ⟨true, rfl, ?_⟩⟩
    exact ifF rfl (k _ s1)
theorem scNeedRange : FnScope ["what", "value", "least", "most"] ["what", "value", "least", "most"] (defScope sNeedRange) := ⟨rfl, rfl, rfl, by decide +kernel, rfl, by decide +kernel, by decide +kernel⟩
theorem ok_needRange {f : Addr} {fd : FuncData} (F : Fun K "need_range" "need_range" sNeedRange f fd) : FnOk P w K mg base CX0 1 f fd ["what", "value", "least", "most"] spNeedRange := by
  refine F.ok scNeedRange (fun vs H Q E h => ?_) (fun cdv A outer s H vs Q E hr h => ?_)
  · obtain ⟨z, x, lo, hi, rfl, _⟩ := h
    rfl
  · obtain ⟨z, x, lo, hi, rfl, h1, h2, k⟩ := h
    refine ⟨_, pss_one (ps_if (PW.pt (pw_or (pt_cmpR op_lt (pv 1) (pv 2) (nomark _)) (pw_or1 (pt_cmpR op_gt (pv 1) (pv 3) (nomark _))))) (pss_one ps_never) pss_nil), ?_⟩
    refine ⟨_, rfl, _, rfl, _, _, rfl, rfl, false, congrArg V.bl (decide_eq_false (by omega)), iteF ?_⟩
    exact ⟨_, rfl, _, rfl, _, _, rfl, rfl, false, congrArg V.bl (decide_eq_false (by omega)), iteF k⟩
theorem scNeedKind : FnScope ["name", "kind_rows", "row"] ["name", "kind_rows"] (defScope sNeedKind) := ⟨rfl, rfl, rfl, by decide +kernel, rfl, by decide +kernel, by decide +kernel⟩
theorem inV_mem {z : Str} {ns : List Str} (h : z ∈ ns) : inV (V.str z) (ns.map V.str) = true := by
  unfold inV
  rw [List.any_eq_true]
  exact ⟨V.str z, List.mem_map.mpr ⟨z, h, rfl⟩, by simp [eqV]⟩
theorem flat_strs (ns : List Str) : (ns.map V.str).all flatV = true := by
  rw [List.all_eq_true]
  intro x hx
  obtain ⟨a, _, rfl⟩ := List.mem_map.mp hx
  rfl
theorem ok_needKind {f : Addr} {fd : FuncData} (F : Fun K "need_kind" "need_kind" sNeedKind f fd) : FnOk P w K mg base CX0 1 f fd ["name", "kind_rows"] spNeedKind := by
  refine F.ok scNeedKind (fun vs H Q E h => ?_) (fun cdv A outer s H vs Q E hr h => ?_)
  · obtain ⟨z, l, ks, rfl, _⟩ := h
    rfl
  · obtain ⟨z, l, ks, rfl, ⟨us, hl, hrows⟩, hz, h4, k⟩ := h
    have hlen : us.length = ks.length := by rw [hrows.length, List.length_map]
    refine ⟨_, pss_one (ps_if (pt_cmpR op_notIn_seq (pv 0) (pe_lc (own := [("row", 2)]) (g := gName 2) (tt := tYes) rfl scNeedKind.nd (pi_list (pv 1)) (blkOk_by (N := ["name", "kind_rows", "row"]) (sc := defScope sNeedKind) (by decide +kernel))
      (fun _ _ _ _ _ => pg_name (i := 2) scNeedKind.nd rfl (Or.inl rfl)) (fun _ _ _ _ _ => pts_nil) (fun _ _ _ _ _ => pe_ix (ixT K) (pv 2) pe_int (fun _ _ => rfl))) (by rfl)) (pss_one ps_never) pss_nil), ?_⟩
    refine ⟨_, rfl, _, rfl, l, rfl, ⟨_, SqL.of hl⟩, fun D hD => lcy (walk_list (K := K) (a := l) (xs := us)) (fun i H' => Same H H' ∧ H' D = some (.lst (((ks.take i).map (·.1)).map V.str))) ⟨same_upd hD, upd_same⟩ (fun i H' _ h => SqL.of (h.1 _ _ hl)) ?_ ?_⟩
    · rintro i x H1 _ _ ⟨s1, hL⟩ ⟨rfl, hi⟩
      obtain ⟨r, hr1, a, rfl, ha⟩ := hrows.get hi
      rw [List.getElem?_map] at hr1
      obtain ⟨kk, hk, rfl⟩ := Option.map_eq_some_iff.mp hr1
      have hi4 : i < 4 := by
        have := (List.getElem?_eq_some_iff.mp hk).1
        omega
      refine ⟨rfl, ?_⟩
      refine ⟨_, rfl, a, _, 0, .str kk.1, rfl, rfl, SqT.of (s1 _ _ ha), atI_nat (j := 0) rfl, _, hL, ?_, same_up s1 hD, ?_⟩
      · rw [List.length_map, List.length_map, List.length_take, sizeLine_eq]
        omega
      · rw [upd_same]
        have e : ks.take (i + 1) = ks.take i ++ [kk] := by rw [List.take_add_one, hk]; rfl
        rw [e, List.map_append, List.map_append]
        rfl
    · rintro H1 ⟨s1, hL⟩
      rw [hlen, List.take_length] at hL
      refine ⟨D, _, rfl, .inl (SqL.of hL), rfl, flat_strs _, _, rfl, ?_⟩
      have e : inV (V.str z) ((ks.map (·.1)).map V.str) = true := inV_mem hz
      rw [e]
      exact ifF rfl (k _ s1)
end
end WD
/-! checked_kinds, checked_arrows -/
namespace WD
open PySem PySem.Spec PyProof.Rows L2
/-- [row[0] for row in l], behind the list -/
theorem names_lc {K : PySem.W.Frag} {l D : Addr} {H : Hp} {us : List V} {xss : List (List V)} {ns : List V} {σ : L2.St} {i : Nat} {Qd : Hp → Prop} (hl : H l = some (.lst us)) (hr : Rows H us xss) (h0 : All2 (fun xs n => xs[0]? = some n) xss ns) (hz : ns.length ≤ 1000) (hD : H D = none)
    (k : ∀ H', Same H H' → H' D = some (.lst ns) → Qd H') (hi : i < σ.length) :
    ∃ W : Nat → Nat → Hp → Prop, (∃ m, W 0 m (L2.upd H D (.lst []))) ∧ ∀ j m H, W j m H →
      ((Itl K l).stop j H ∧ Qd H) ∨ ((Itl K l).go j H ∧ ∃ Nx : Hp → Prop, (∀ H', Nx H' → ∃ m', m' < m ∧ W (j + 1) m' H') ∧ ∀ x H', (Itl K l).yld j H x H' → gName i x (wipe σ [i]) H' fun σ2 H2 => wipe σ2 [i] = wipe σ [i] ∧ tYes σ2 H2 fun b H3 =>
        if b = true then tOp (rIxT K) (tVar i) (tC (.int 0)) σ2 H3 fun y H4 => ∃ acc, H4 D = some (.lst acc) ∧ acc.length < sizeLine ∧ Nx (L2.upd H4 D (.lst (acc ++ [y]))) else Nx H3) := by
  have hlen : us.length = ns.length := by rw [hr.length, h0.length]
  refine lcy (walk_list (K := K) (a := l) (xs := us)) (fun j H' => Same H H' ∧ H' D = some (.lst (ns.take j))) ⟨same_upd hD, upd_same⟩ (fun j H' _ h => SqL.of (h.1 _ _ hl)) ?_ ?_
  · rintro j x H1 _ hj ⟨s1, hL⟩ ⟨rfl, hx⟩
    obtain ⟨xs, hxs, a, rfl, ha⟩ := hr.get hx
    obtain ⟨n, hn, hn0⟩ := h0.get hxs
    have hw : i < (wipe σ [i]).length := by rw [wipe_length]; exact hi
    have ew : wipe ((wipe σ [i]).set i (some (V.ref a))) [i] = wipe σ [i] := by
      show ((σ.set i none).set i (some (V.ref a))).set i none = σ.set i none
      rw [List.set_set, List.set_set]
    refine ⟨ew, _, List.getElem?_set_self hw, a, xs, 0, n, rfl, rfl, SqT.of (s1 _ _ ha), atI_nat (j := 0) hn0, _, hL, ?_, same_up s1 hD, ?_⟩
    · rw [List.length_take, sizeLine_eq]
      omega
    · rw [upd_same]
      have e : ns.take (j + 1) = ns.take j ++ [n] := by rw [List.take_add_one, hn]; rfl
      rw [e]
  · rintro H1 ⟨s1, hL⟩
    rw [hlen, List.take_length] at hL
    exact k H1 s1 hL
theorem kv0 : ∀ ks : List (Str × Int × Int), All2 (fun (xs : List V) (n : V) => xs[0]? = some n) (ks.map kv) ((ks.map (·.1)).map V.str)
  | [] => .nil
  | _ :: ks => .cons rfl (kv0 ks)
theorem inV_not {z : Str} {ns : List Str} (h : ¬ z ∈ ns) : inV (V.str z) (ns.map V.str) = false := by
  unfold inV
  rw [List.any_eq_false]
  intro x hx
  obtain ⟨a, ha, rfl⟩ := List.mem_map.mp hx
  have hne : ¬ a = z := fun e => h (by rw [← e]; exact ha)
  simp [eqV, hne]
theorem take_snoc {α : Type} {l : List α} {i : Nat} {x : α} (h : l[i]? = some x) : l.take (i + 1) = l.take i ++ [x] := by rw [List.take_add_one, h]; rfl
theorem nd_take {α : Type} {l : List α} (hn : l.Nodup) {i : Nat} {x : α} (h : l[i]? = some x) : ¬ x ∈ l.take i := fun hm => by
  obtain ⟨j, hj, e⟩ := List.mem_iff_getElem.mp hm
  have hj' : j < i := by
    rw [List.length_take] at hj
    omega
  have e2 : l[j]? = some x := by
    rw [List.getElem_take] at e
    rw [List.getElem?_eq_getElem (by rw [List.length_take] at hj; omega), e]
  have := L2.nd_ix hn e2 h
  omega
abbrev sCheckedKinds : Stmt := top 39
def spCheckedKinds : Sp := fun vs H Q _ => ∃ (l : Addr) (b : Bool) (ks : List (Str × Int × Int)), vs = [.ref l, .bl b] ∧ LRows H l (ks.map kv) ∧ (ks.map (·.1)).Nodup ∧ ks.length ≤ 4 ∧ (∀ k ∈ ks, NameOk k.1) ∧
  (∀ k ∈ ks, 1 ≤ k.2.1 ∧ k.2.1 ≤ (if b = true then 9 else 99) ∧ 1 ≤ k.2.2 ∧ k.2.2 ≤ (if b = true then 24 else 99)) ∧ ∀ H' r, Same H H' → LRows (newer H H') r (ks.map kv) → Q (.ref r) H'
section
variable {P : Program} {w : World} {K : PySem.W.Frag} {mg : Str → Option Value} {base : Heap}
theorem scCheckedKinds : FnScope ["kinds", "branching", "most_cost", "most_deadline", "rows", "name", "cost", "deadline", "row"] ["kinds", "branching"] (defScope sCheckedKinds) := ⟨rfl, rfl, rfl, by decide +kernel, rfl, by decide +kernel, by decide +kernel⟩
theorem ok_checkedKinds {f : Addr} {fd : FuncData} (F : Fun K "checked_kinds" "checked_kinds" sCheckedKinds f fd) (c1 : Cal P w K mg base "need_name" 2 ["text"] spNeedName) (c2 : Cal P w K mg base "need_range" 1 ["what", "value", "least", "most"] spNeedRange) :
    FnOk P w K mg base CX0 3 f fd ["kinds", "branching"] spCheckedKinds := by
  refine F.ok scCheckedKinds (fun vs H Q E h => ?_) (fun cdv A outer s H vs Q E hr h => ?_)
  · obtain ⟨l, b, ks, rfl, _⟩ := h
    rfl
  · obtain ⟨l, b, ks, rfl, ⟨us, hl, hrows⟩, hnd, h4, hnm, hrg, k⟩ := h
    have hlen : us.length = ks.length := by rw [hrows.length, List.length_map]
    refine ⟨_, pss_cons (ps_asg (pe_ifExp (pt_val (pv 1)) (pe_tup (pa_cons pe_int (pa_cons pe_int pa_nil))) (pe_tup (pa_cons pe_int (pa_cons pe_int pa_nil)))) (pgT K (pgs_cons (pg_name (i := 2) scCheckedKinds.nd rfl (Or.inl rfl)) (pgs_cons (pg_name (i := 3) scCheckedKinds.nd rfl (Or.inl rfl)) pgs_nil))))
      (pss_cons (ps_set (i := 4) scCheckedKinds.nd rfl (Or.inl rfl) (pe_lst pa_nil))
      (pss_cons (ps_for PassesOwn.never rfl (piL K (pv 0)) (pgT K (pgs_cons (pg_name (i := 5) scCheckedKinds.nd rfl (Or.inl rfl)) (pgs_cons (pg_name (i := 6) scCheckedKinds.nd rfl (Or.inl rfl)) (pgs_cons (pg_name (i := 7) scCheckedKinds.nd rfl (Or.inl rfl)) pgs_nil))))
        (pss_cons (ps_expr (pc c1 hr (pa_cons (pv 5) pa_nil)))
        (pss_cons (ps_if (pt_cmpR (inS K) (pv 5) (pe_lc (own := [("row", 8)]) (g := gName 8) (tt := tYes) rfl scCheckedKinds.nd (piL K (pv 4)) (blkOk_by (N := ["kinds", "branching", "most_cost", "most_deadline", "rows", "name", "cost", "deadline", "row"]) (sc := defScope sCheckedKinds) (by decide +kernel))
            (fun _ _ _ _ _ => pg_name (i := 8) scCheckedKinds.nd rfl (Or.inl rfl)) (fun _ _ _ _ _ => pts_nil) (fun _ _ _ _ _ => pe_ix (ixT K) (pv 8) pe_int (fun _ _ => rfl))) (by rfl)) (pss_one ps_never) pss_nil)
        (pss_cons (ps_expr (pc c2 hr (pa_cons pe_str (pa_cons (pv 6) (pa_cons pe_int (pa_cons (pv 2) pa_nil))))))
        (pss_cons (ps_expr (pc c2 hr (pa_cons pe_str (pa_cons (pv 7) (pa_cons pe_int (pa_cons (pv 3) pa_nil))))))
        (pss_one (ps_expr (pe_bm PySem.F.plainAttrs_list PySem.F.slot_list_append PySem.F.type_list_append mt_append (pv 4) (pa_cons (pe_tup (pa_cons (pv 5) (pa_cons (pv 6) (pa_cons (pv 7) pa_nil)))) pa_nil)))))))))
      (pss_one (ps_ret (pv 4))))), ?_⟩
    refine ⟨_, rfl, b, rfl, ?_⟩
    cases b
    all_goals first | refine iteT ?_ | refine iteF ?_
    all_goals simp only [Bool.false_eq_true, if_false, if_true] at hrg
    all_goals (
      refine ⟨(by show 2 ≤ sizeLine; decide), fun p hp => ?_⟩
      refine ⟨p, _, rfl, SqT.of upd_same, rfl, _, _, rfl, _, _, rfl, rfl, ?_⟩
      refine ⟨(by show 0 ≤ sizeLine; decide), fun R hR => ?_⟩
      have s1 := Same.trans (same_upd hp) (same_upd (o := HO.lst []) hR)
      have hRH : H R = none := Same.free (same_upd hp) hR
      refine ⟨_, rfl, l, rfl, ⟨_, SqL.of (s1 _ _ hl)⟩, for_list (K := K) (a := l) (xs := us) (fun i σ Hc => ∃ (b : Bool) (mc md : Int) (v5 v6 v7 : Option V), σ = [some (.ref l), some (.bl b), some (.int mc), some (.int md), some (.ref R), v5, v6, v7, none] ∧ (∀ k ∈ ks, 1 ≤ k.2.1 ∧ k.2.1 ≤ mc ∧ 1 ≤ k.2.2 ∧ k.2.2 ≤ md) ∧ Same H Hc ∧ ∃ vs', Hc R = some (.lst vs') ∧ Rows (newer H Hc) vs' ((ks.take i).map kv))
        ⟨_, _, _, none, none, none, rfl, hrg, s1, [], upd_same, .nil⟩ (fun i σ Hc _ ⟨_, _, _, _, _, _, _, _, s2, _⟩ => SqL.of (s2 _ _ hl)) ?_ ?_⟩
      · rintro i x σ Hc hi ⟨b, mc, md, v5, v6, v7, rfl, hrg, s2, vs', hR', hrw⟩
        obtain ⟨xs, hxs, a, rfl, ha⟩ := hrows.get hi
        rw [List.getElem?_map] at hxs
        obtain ⟨kk, hk, rfl⟩ := Option.map_eq_some_iff.mp hxs
        have hkm : kk ∈ ks := List.mem_of_getElem? hk
        have hi4 : i < 4 := by
          have := (List.getElem?_eq_some_iff.mp hk).1
          omega
        obtain ⟨g1, g2, g3, g4⟩ := hrg kk hkm
        refine ⟨a, _, rfl, SqT.of (s2 _ _ ha), rfl, _, _, rfl, _, _, rfl, _, _, rfl, rfl, ?_⟩
        -- need_name(name)
        refine ⟨_, rfl, kk.1, rfl, hnm kk hkm, fun H2 s3 => ?_⟩
        have s4 : Same H H2 := Same.trans s2 s3
        have hR2 := s3 _ _ hR'
        have hrw2 : Rows (newer H H2) vs' ((ks.take i).map kv) := Rows.keeps hrw (newer_same s3)
        -- if name in [..]
        refine ⟨_, rfl, _, rfl, R, rfl, ⟨_, SqL.of hR2⟩, fun D hD => names_lc (K := K) (i := 8) hR2 (Rows.keeps hrw2 (newer_sub _ _)) (kv0 _) ?_ hD (fun H3 s5 hD3 => ?_) (show 8 < 9 by decide)⟩
        · rw [List.length_map, List.length_map, List.length_take]
          omega
        have hnot : ¬ kk.1 ∈ (ks.take i).map (·.1) := by
          have := nd_take hnd (i := i) (x := kk.1) (by rw [List.getElem?_map, hk]; rfl)
          rwa [← List.map_take] at this
        refine ⟨D, _, rfl, .inl (SqL.of hD3), rfl, flat_strs _, false, ?_, ifF rfl ?_⟩
        · have e := inV_not hnot
          exact congrArg V.bl e
        have s6 : Same H H3 := Same.trans s4 s5
        have hR3 := s5 _ _ hR2
        have hrw3 : Rows (newer H H3) vs' ((ks.take i).map kv) := Rows.keeps hrw2 (newer_same s5)
        -- the two numbers
        refine ⟨_, rfl, _, rfl, _, kk.2.1, 1, mc, rfl, g1, g2, ?_⟩
        refine ⟨_, rfl, _, rfl, _, kk.2.2, 1, md, rfl, g3, g4, ?_⟩
        -- rows.append(..)
        refine ⟨_, rfl, .inl ⟨rfl, _, SqL.of hR3⟩, _, rfl, _, rfl, _, rfl, (by show 3 ≤ sizeLine; decide), fun t ht => ⟨R, vs', _, rfl, rfl, (by rw [upd_ne (ne_of_none hR3 ht)]; exact hR3), ?_, ?_⟩⟩
        · have := hrw3.length
          rw [List.length_map, List.length_take] at this
          rw [sizeLine_eq]
          omega
        have htH : H t = none := Same.free s6 ht
        have s7 : Same H (upd (upd H3 t (.tup (kv kk))) R (.lst (vs' ++ [V.ref t]))) := same_up (same_up s6 htH) hRH
        refine ⟨_, _, _, _, _, _, rfl, hrg, s7, _, upd_same, ?_⟩
        have htR : t ≠ R := (ne_of_none hR3 ht).symm
        rw [take_snoc hk, List.map_append]
        refine All2.snoc (hrw3.mono fun v xs q => ?_) ⟨t, rfl, newer_at htH (by rw [upd_ne htR]; exact upd_same)⟩
        obtain ⟨b, eb, hb⟩ := q
        have hb3 := newer_sub _ _ _ _ hb
        exact ⟨b, eb, newer_at (newer_none hb) (by rw [upd_ne (ne_of hb3 hR3 (by intro z; cases z)), upd_ne (ne_of_none hb3 ht)]; exact hb3)⟩
      · rintro σ Hc ⟨b, mc, md, v5, v6, v7, rfl, _, s2, vs', hR', hrw⟩
        rw [hlen, List.take_length] at hrw
        exact ⟨_, rfl, k _ R s2 ⟨vs', newer_at hRH hR', hrw⟩⟩)
end
end WD
/-! checked_arrows -/
namespace WD
open PySem PySem.Spec PyProof.Rows L2
theorem small_letters : ∀ c ∈ letters.cps.toList, c < 128 := by decide +kernel
theorem small_others : ∀ c ∈ others.cps.toList, c < 128 := by decide +kernel
theorem NameOk.sOk {z : Str} (h : NameOk z) : PySem.PyData.strOk z = true := by
  unfold PyData.strOk
  rw [Array.all_eq_true']
  intro c hc
  have hc' : c ∈ z.cps.toList := by simpa using hc
  have h1 : c < 128 := by
    rcases h.2.2.2 c hc' with q | q
    · exact small_letters c q
    · exact small_others c q
  simp
  omega
/-- a pair of names as data -/
def pd (a : Str × Str) : PyData := .tuple [.str a.1, .str a.2]
theorem pd_eqv (a b : Str × Str) : PyData.eqv (pd a) (pd b) = decide (a = b) := by
  obtain ⟨a1, a2⟩ := a
  obtain ⟨b1, b2⟩ := b
  have e : PyData.eqv (pd (a1, a2)) (pd (b1, b2)) = ((a1 == b1) && ((a2 == b2) && true)) := by simp only [pd, PyData.eqv, PyData.eqvAll]
  rw [e]
  by_cases h1 : a1 = b1
  · by_cases h2 : a2 = b2
    · subst h1 h2
      simp
    · simp [h2]
  · simp [h1]
theorem pd_lay {a : Str × Str} (h1 : PySem.PyData.strOk a.1 = true) (h2 : PySem.PyData.strOk a.2 = true) : (pd a).canLay0 = true := by simp [pd, PyData.canLay0, PyData.canLayAll0, h1, h2]
theorem pds_lay : ∀ {l : List (Str × Str)}, (∀ a ∈ l, PySem.PyData.strOk a.1 = true ∧ PySem.PyData.strOk a.2 = true) → PyData.canLayAll0 (l.map pd) = true
  | [], _ => by simp [PyData.canLayAll0]
  | a :: l, h => by
    have h1 := h a (List.mem_cons_self ..)
    have h2 := pds_lay (l := l) fun b hb => h b (List.mem_cons_of_mem _ hb)
    simp [PyData.canLayAll0, pd_lay h1.1 h1.2, h2]
theorem pd_depth (a : Str × Str) : (pd a).depth = 1 := by simp [pd, PyData.depth, PyData.depthAll]
theorem pds_depth : ∀ l : List (Str × Str), PyData.depthAll (l.map pd) ≤ 1
  | [] => by simp [PyData.depthAll]
  | a :: l => by
    have h1 := pds_depth l
    have h2 := pd_depth a
    simp only [List.map_cons, PyData.depthAll]
    omega
theorem pd_shaped {a : Str × Str} (h1 : PySem.PyData.strOk a.1 = true) (h2 : PySem.PyData.strOk a.2 = true) : SeqAt.shaped (pd a) = true := by
  have h := pd_depth a
  show ((pd a).canLay0 && decide ((pd a).depth ≤ 64)) = true
  rw [Bool.and_eq_true]
  exact ⟨pd_lay h1 h2, decide_eq_true (by omega)⟩
theorem pds_shaped {l : List (Str × Str)} (h : ∀ a ∈ l, PySem.PyData.strOk a.1 = true ∧ PySem.PyData.strOk a.2 = true) : SeqAt.shaped (.list (l.map pd)) = true := by
  have h1 := pds_depth l
  have h2 : PyData.depth (.list (l.map pd)) ≤ 64 := by
    simp only [PyData.depth]
    omega
  show (PyData.canLay0 (.list (l.map pd)) && decide (PyData.depth (.list (l.map pd)) ≤ 64)) = true
  rw [Bool.and_eq_true]
  exact ⟨by simp only [PyData.canLay0]; exact pds_lay h, decide_eq_true h2⟩
def pv2 (a : Str × Str) : List V := [.str a.1, .str a.2]
theorem dp_pair {K : PySem.W.Frag} {G : Hp} {v : V} {a : Str × Str} (h : IsT G v (pv2 a)) : Dp K G v (pd a) := by
  obtain ⟨t, rfl, ht⟩ := h
  exact .tup (SqT.of ht) (.cons (.str _) (.cons (.str _) .nil))
theorem dp_pairs {K : PySem.W.Frag} {G : Hp} : ∀ {vs : List V} {l : List (Str × Str)}, Rows G vs (l.map pv2) → DpAll K G vs (l.map pd)
  | _, [], .nil => .nil
  | _, _ :: _, .cons h t => .cons (dp_pair h) (dp_pairs t)
theorem room65 {k : Nat} {A : Around} (r : Room k A) : A.units + 65 < cLine := by have := r.un; omega
abbrev sCheckedArrows : Stmt := top 40
def spCheckedArrows : Sp := fun vs H Q _ => ∃ (l lk : Addr) (as : List (Str × Str × Int)) (ks : List (Str × Int × Int)), vs = [.ref l, .ref lk] ∧ LRows H l (as.map av) ∧ LRows H lk (ks.map kv) ∧ ks.length ≤ 4 ∧ (∀ k ∈ ks, NameOk k.1) ∧ as.length ≤ 12 ∧
  (∀ a ∈ as, a.1 ∈ ks.map (·.1) ∧ a.2.1 ∈ ks.map (·.1)) ∧ (∀ a ∈ as, 1 ≤ a.2.2 ∧ a.2.2 ≤ 12) ∧ (as.map fun a => (a.1, a.2.1)).Nodup ∧ ∀ H' r, Same H H' → LRows (newer H H') r (as.map av) → Q (.ref r) H'
section
variable {P : Program} {w : World} {K : PySem.W.Frag} {mg : Str → Option Value} {base : Heap}
theorem scCheckedArrows : FnScope ["arrows", "kind_rows", "rows", "first", "second", "gap", "row"] ["arrows", "kind_rows"] (defScope sCheckedArrows) := ⟨rfl, rfl, rfl, by decide +kernel, rfl, by decide +kernel, by decide +kernel⟩
theorem ok_checkedArrows {f : Addr} {fd : FuncData} (F : Fun K "checked_arrows" "checked_arrows" sCheckedArrows f fd) (g : Gs mg) (c1 : Cal P w K mg base "need_kind" 1 ["name", "kind_rows"] spNeedKind) (c2 : Cal P w K mg base "need_range" 1 ["what", "value", "least", "most"] spNeedRange) :
    FnOk P w K mg base CX0 3 f fd ["arrows", "kind_rows"] spCheckedArrows := by
  refine F.ok scCheckedArrows (fun vs H Q E h => ?_) (fun cdv A outer s H vs Q E hr h => ?_)
  · obtain ⟨l, lk, as, ks, rfl, _⟩ := h
    rfl
  · obtain ⟨l, lk, as, ks, rfl, ⟨us, hl, hrows⟩, hlk, h4, hnm, h12, hfs, hgp, hnd, k⟩ := h
    have hlen : us.length = as.length := by rw [hrows.length, List.length_map]
    have hok : ∀ a ∈ as, PySem.PyData.strOk a.1 = true ∧ PySem.PyData.strOk a.2.1 = true := fun a ha => by
      obtain ⟨h1, h2⟩ := hfs a ha
      obtain ⟨k1, hk1, e1⟩ := List.mem_map.mp h1
      obtain ⟨k2, hk2, e2⟩ := List.mem_map.mp h2
      exact ⟨by rw [← e1]; exact (hnm k1 hk1).sOk, by rw [← e2]; exact (hnm k2 hk2).sOk⟩
    refine ⟨_, pss_cons (ps_set (i := 2) scCheckedArrows.nd rfl (Or.inl rfl) (pe_lst pa_nil))
      (pss_cons (ps_for PassesOwn.never rfl (piL K (pv 0)) (pgT K (pgs_cons (pg_name (i := 3) scCheckedArrows.nd rfl (Or.inl rfl)) (pgs_cons (pg_name (i := 4) scCheckedArrows.nd rfl (Or.inl rfl)) (pgs_cons (pg_name (i := 5) scCheckedArrows.nd rfl (Or.inl rfl)) pgs_nil))))
        (pss_cons (ps_expr (pc c1 hr (pa_cons (pv 3) (pa_cons (pv 1) pa_nil))))
        (pss_cons (ps_expr (pc c1 hr (pa_cons (pv 4) (pa_cons (pv 1) pa_nil))))
        (pss_cons (ps_expr (pc c2 hr (pa_cons pe_str (pa_cons (pv 5) (pa_cons pe_int (pa_cons (pgl_int g.mgp) pa_nil))))))
        (pss_cons (ps_if (pt_cmpR (op_inD (room65 hr)) (pe_tup (pa_cons (pv 3) (pa_cons (pv 4) pa_nil))) (pe_lc (own := [("row", 6)]) (g := gName 6) (tt := tYes) rfl scCheckedArrows.nd (piL K (pv 2)) (blkOk_by (N := ["arrows", "kind_rows", "rows", "first", "second", "gap", "row"]) (sc := defScope sCheckedArrows) (by decide +kernel))
            (fun _ _ _ _ _ => pg_name (i := 6) scCheckedArrows.nd rfl (Or.inl rfl)) (fun _ _ _ _ _ => pts_nil) (fun _ _ _ _ _ => pe_tup (pa_cons (pe_ix (ixT K) (pv 6) pe_int (fun _ _ => rfl)) (pa_cons (pe_ix (ixT K) (pv 6) pe_int (fun _ _ => rfl)) pa_nil)))) (by rfl)) (pss_one ps_never) pss_nil)
        (pss_one (ps_expr (pe_bm PySem.F.plainAttrs_list PySem.F.slot_list_append PySem.F.type_list_append mt_append (pv 2) (pa_cons (pe_tup (pa_cons (pv 3) (pa_cons (pv 4) (pa_cons (pv 5) pa_nil)))) pa_nil)))))))))
      (pss_one (ps_ret (pv 2)))), ?_⟩
    refine ⟨(by show 0 ≤ sizeLine; decide), fun R hR => ?_⟩
    have s1 := same_upd (o := HO.lst []) hR
    refine ⟨_, rfl, l, rfl, ⟨_, SqL.of (s1 _ _ hl)⟩, for_list (K := K) (a := l) (xs := us) (fun i σ Hc => ∃ v3 v4 v5 : Option V, σ = [some (.ref l), some (.ref lk), some (.ref R), v3, v4, v5, none] ∧ Same H Hc ∧ ∃ vs', Hc R = some (.lst vs') ∧ Rows (newer H Hc) vs' ((as.take i).map av))
      ⟨none, none, none, rfl, s1, [], upd_same, .nil⟩ (fun i σ Hc _ ⟨_, _, _, _, s2, _⟩ => SqL.of (s2 _ _ hl)) ?_ ?_⟩
    · rintro i x σ Hc hi ⟨v3, v4, v5, rfl, s2, vs', hR', hrw⟩
      obtain ⟨xs, hxs, a, rfl, ha⟩ := hrows.get hi
      rw [List.getElem?_map] at hxs
      obtain ⟨aa, hk, rfl⟩ := Option.map_eq_some_iff.mp hxs
      have hkm : aa ∈ as := List.mem_of_getElem? hk
      have hi12 : i < 12 := by
        have := (List.getElem?_eq_some_iff.mp hk).1
        omega
      have hvl : vs'.length = i := by
        rw [hrw.length, List.length_map, List.length_take]
        have := (List.getElem?_eq_some_iff.mp hk).1
        omega
      refine ⟨a, _, rfl, SqT.of (s2 _ _ ha), rfl, _, _, rfl, _, _, rfl, _, _, rfl, rfl, ?_⟩
      refine ⟨_, rfl, _, rfl, aa.1, lk, ks, rfl, hlk.keeps s2, (hfs aa hkm).1, h4, fun H2 s3 => ?_⟩
      have s4 : Same H H2 := Same.trans s2 s3
      refine ⟨_, rfl, _, rfl, aa.2.1, lk, ks, rfl, hlk.keeps s4, (hfs aa hkm).2, h4, fun H3 s5 => ?_⟩
      have s6 : Same H H3 := Same.trans s4 s5
      have hR3 := s5 _ _ (s3 _ _ hR')
      have hrw3 : Rows (newer H H3) vs' ((as.take i).map av) := Rows.keeps hrw (newer_same (Same.trans s3 s5))
      refine ⟨_, rfl, _, aa.2.2, 1, 12, rfl, (hgp aa hkm).1, (hgp aa hkm).2, ?_⟩
      -- the pair
      refine ⟨_, rfl, _, rfl, (by show 2 ≤ sizeLine; decide), fun tp htp => ?_⟩
      have hR4 : upd H3 tp (.tup (pv2 (aa.1, aa.2.1))) R = some (.lst vs') := (same_upd htp) _ _ hR3
      have s7 : Same H (upd H3 tp (.tup (pv2 (aa.1, aa.2.1)))) := Same.trans s6 (same_upd htp)
      refine ⟨_, rfl, R, rfl, ⟨_, SqL.of hR4⟩, fun D hD => ?_⟩
      refine lcy (walk_list (K := K) (a := R) (xs := vs')) (fun j H' => Same (upd H3 tp (.tup (pv2 (aa.1, aa.2.1)))) H' ∧ ∃ ws, H' D = some (.lst ws) ∧ Rows H' ws (((as.take i).take j).map fun a => pv2 (a.1, a.2.1))) ⟨same_upd hD, [], upd_same, .nil⟩ (fun j H' _ h => SqL.of (h.1 _ _ hR4)) ?_ ?_
      · rintro j x _ H5 hj ⟨s8, ws, hD5, hws⟩ ⟨rfl, hx⟩
        obtain ⟨xs, hxs, b, rfl, hb⟩ := hrw3.get hx
        rw [List.getElem?_map] at hxs
        obtain ⟨bb, hbb, rfl⟩ := Option.map_eq_some_iff.mp hxs
        have hb5 := s8 _ _ (same_upd htp _ _ (newer_sub _ _ _ _ hb))
        refine ⟨rfl, _, rfl, b, _, 0, .str bb.1, rfl, rfl, SqT.of hb5, atI_nat (j := 0) rfl, _, rfl, b, _, 1, .str bb.2.1, rfl, rfl, SqT.of hb5, atI_nat (j := 1) rfl, (by show 2 ≤ sizeLine; decide), fun t ht => ?_⟩
        have hDt : upd H5 t (.tup (pv2 (bb.1, bb.2.1))) D = some (.lst ws) := same_upd ht _ _ hD5
        refine ⟨_, hDt, ?_, same_up (Same.trans s8 (same_upd ht)) hD, _, upd_same, ?_⟩
        · have := hws.length
          rw [List.length_map, List.length_take, List.length_take] at this
          rw [sizeLine_eq]
          omega
        · rw [take_snoc hbb, List.map_append]
          refine All2.snoc (Rows.up (Rows.keeps hws (same_upd ht)) hDt (by intro xs z; cases z)) ⟨t, rfl, ?_⟩
          rw [upd_ne (ne_of_none hD5 ht).symm]
          exact upd_same
      · rintro H5 ⟨s8, ws, hD5, hws⟩
        rw [hvl, List.take_of_length_le (l := as.take i) (by rw [List.length_take]; omega)] at hws
        have ht5 := s8 _ _ (upd_same (H := H3) (a := tp) (o := .tup (pv2 (aa.1, aa.2.1))))
        have e1 : (as.take i).map (fun a => pv2 (a.1, a.2.1)) = ((as.take i).map fun a => (a.1, a.2.1)).map pv2 := by rw [List.map_map]; rfl
        rw [e1] at hws
        have hne : (((as.take i).map fun a => (a.1, a.2.1)).map pd).any (fun z => PyData.eqv z (pd (aa.1, aa.2.1))) = false := by
          rw [List.any_eq_false]
          intro z hz
          obtain ⟨b, hb, rfl⟩ := List.mem_map.mp hz
          rw [pd_eqv]
          have hnot := nd_take hnd (i := i) (x := (aa.1, aa.2.1)) (by rw [List.getElem?_map, hk]; rfl)
          rw [← List.map_take] at hnot
          have : ¬ b = (aa.1, aa.2.1) := fun e => hnot (by rw [← e]; exact hb)
          simp [this]
        refine ⟨pd (aa.1, aa.2.1), _, dp_pair ⟨tp, rfl, ht5⟩, .lst (SqL.of hD5) (dp_pairs hws), pd_shaped (hok aa hkm).1 (hok aa hkm).2, pds_shaped (fun b hb => ?_), false, congrArg V.bl hne, iteF ?_⟩
        · obtain ⟨c, hc, rfl⟩ := List.mem_map.mp hb
          exact hok c (List.mem_of_mem_take hc)
        -- rows.append(..)
        have s9 : Same H H5 := Same.trans s7 s8
        have hR5 := s8 _ _ hR4
        refine ⟨_, rfl, .inl ⟨rfl, _, SqL.of hR5⟩, _, rfl, _, rfl, _, rfl, (by show 3 ≤ sizeLine; decide), fun t ht => ⟨R, vs', _, rfl, rfl, (same_upd ht) _ _ hR5, ?_, ?_⟩⟩
        · rw [hvl, sizeLine_eq]
          omega
        have htH : H t = none := Same.free s9 ht
        refine ⟨_, _, _, rfl, same_up (same_up s9 htH) hR, _, upd_same, ?_⟩
        have htR : t ≠ R := (ne_of_none hR5 ht).symm
        rw [take_snoc hk, List.map_append]
        have hrw5 : Rows (newer H H5) vs' ((as.take i).map av) := Rows.keeps hrw3 (newer_same (Same.trans (same_upd htp) s8))
        refine All2.snoc (hrw5.mono fun v xs q => ?_) ⟨t, rfl, newer_at htH (by rw [upd_ne htR]; exact upd_same)⟩
        obtain ⟨b, eb, hb⟩ := q
        have hb3 := newer_sub _ _ _ _ hb
        exact ⟨b, eb, newer_at (newer_none hb) (by rw [upd_ne (ne_of hb3 hR5 (by intro z; cases z)), upd_ne (ne_of_none hb3 ht)]; exact hb3)⟩
    · rintro σ Hc ⟨v3, v4, v5, rfl, s2, vs', hR', hrw⟩
      rw [hlen, List.take_length] at hrw
      exact ⟨_, rfl, k _ R s2 ⟨vs', newer_at hR hR', hrw⟩⟩
end
end WD
/-! Task -/
namespace WD
open PySem PySem.Spec PyProof.Rows L2
abbrev sTInit : Stmt := inClass (top 41) 0
abbrev sTKinds : Stmt := inClass (top 41) 1
abbrev sRowOf : Stmt := inClass (top 41) 3
abbrev sCostOf : Stmt := inClass (top 41) 4
abbrev sDeadlineOf : Stmt := inClass (top 41) 5
abbrev sFollowers : Stmt := inClass (top 41) 6
/-- a def whatever its defaults are -/
structure FunA (K : PySem.W.Frag) (x qual : Str) (st : Stmt) (f : Addr) (fd : FuncData) : Prop where
  ex : ∃ (oc : Value) (od : Option Addr) (dV kV doc pm : Value) (an : Option Addr) (cdv ct : Value) (osl : Array (Option Value)),
    fd = PySem.W.fnOf x qual (defArgs st) (defBody st) (defScope st) dV kV doc pm an cdv ct ∧ K.lookup f = some ⟨oc, od, .func fd, osl⟩ ∧ PySem.W.codeIn K cdv qual = true
theorem FunA.ok {P : Program} {w : World} {K : PySem.W.Frag} {mg : Str → Option Value} {base : Heap} {x qual : Str} {st : Stmt} {f : Addr} {fd : FuncData} {N ps : List Str} {k : Nat} {sp : Sp} (F : FunA K x qual st f fd) (S : FnScope N ps (defScope st)) (len : ∀ vs H Q E, sp vs H Q E → vs.length = ps.length)
    (hbody : ∀ (cdv : Value) (A : Around) (outer : List Env) (s : Shared) (H : Hp) (vs : List V) (Q : VK) (E : XK), Room k (A.deeper (envOfC qual (defScope st) s.heap.objs.size f cdv)) → sp vs H Q E →
      ∃ t, PSs (cxOf CX0 P w K mg base N qual (defScope st) f cdv A outer s H E).nox (defBody st) t ∧ t { nx := fun _ H' => Q .non H', rt := Q } (L2.start N vs) H) : FnOk P w K mg base CX0 (k + 1) f fd ps sp := by
  obtain ⟨oc, od, dV, kV, doc, pm, an, cdv, ct, osl, rfl, lk, hcd⟩ := F.ex
  refine fn_of lk hcd S len fun A outer s H vs Q E hr hsp => ?_
  obtain ⟨t, h, q⟩ := hbody cdv A outer s H vs Q E hr hsp
  exact ⟨t, h.nox, q⟩
/-! ### a task's attributes -/
theorem n1 : ¬ (("name" : Str) = "kind_rows") := by decide +kernel
theorem n2 : ¬ (("name" : Str) = "arrow_rows") := by decide +kernel
theorem n3 : ¬ (("kind_rows" : Str) = "arrow_rows") := by decide +kernel
theorem tf_name (nm : Str) (lk la : Addr) : (tf nm lk la).lookup ("name" : Str) = some (.str nm) := by
  unfold tf
  rw [lookup_putF, if_neg n2, lookup_putF, if_neg n1, lookup_putF, if_pos rfl]
theorem tf_kr (nm : Str) (lk la : Addr) : (tf nm lk la).lookup ("kind_rows" : Str) = some (.ref lk) := by
  unfold tf
  rw [lookup_putF, if_neg n3, lookup_putF, if_pos rfl]
theorem tf_ar (nm : Str) (lk la : Addr) : (tf nm lk la).lookup ("arrow_rows" : Str) = some (.ref la) := by
  unfold tf
  rw [lookup_putF, if_pos rfl]
theorem tf_no (nm : Str) (lk la : Addr) {m : Str} (h1 : ¬ m = "arrow_rows") (h2 : ¬ m = "kind_rows") (h3 : ¬ m = "name") : (tf nm lk la).lookup m = none := by
  unfold tf
  rw [lookup_putF, if_neg h1, lookup_putF, if_neg h2, lookup_putF, if_neg h3]
  rfl
theorem len_putF (m : Str) (v : V) : ∀ l : List (Str × V), (putF m v l).length ≤ l.length + 1
  | [] => Nat.le_refl _
  | (k, u) :: l => by
    have ih := len_putF m v l
    unfold putF
    split
    · simp
    · simp only [List.length_cons]
      omega
/-- what is known of the class -/
structure TaskC (K : PySem.W.Frag) (C : Addr) : Prop where
  cl : Cls K C
  nn : NoAttr K C "name"
  nk : NoAttr K C "kind_rows"
  na : NoAttr K C "arrow_rows"
def spTInit (C : Addr) : Sp := fun vs H Q _ => ∃ (p dx lk la : Addr) (nm : Str) (ks : List (Str × Int × Int)) (as : List (Str × Str × Int)) (H1 : Hp), vs = [.ref p, .str nm, .ref lk, .ref la] ∧ H = L2.upd (L2.upd H1 dx (.own p)) p (.ins C dx []) ∧ H1 p = none ∧ H1 dx = none ∧ dx ≠ p ∧
  NameOk nm ∧ LRows H1 lk (ks.map kv) ∧ LRows H1 la (as.map av) ∧ TaskOk ks as ∧ ∀ H', Same H1 H' → TaskAt C (newer H1 H') p ks as → Q .non H'
def spRowOf (C : Addr) : Sp := fun vs H Q _ => ∃ (a : Addr) (k : Str × Int × Int) (ks : List (Str × Int × Int)) (as : List (Str × Str × Int)), vs = [.ref a, .str k.1] ∧ TaskAt C H a ks as ∧ (ks.map (·.1)).Nodup ∧ k ∈ ks ∧ ∀ t, H t = some (.tup (kv k)) → Q (.ref t) H
def spCostOf (C : Addr) : Sp := fun vs H Q _ => ∃ (a : Addr) (k : Str × Int × Int) (ks : List (Str × Int × Int)) (as : List (Str × Str × Int)), vs = [.ref a, .str k.1] ∧ TaskAt C H a ks as ∧ (ks.map (·.1)).Nodup ∧ k ∈ ks ∧ Q (.int k.2.1) H
def spDeadlineOf (C : Addr) : Sp := fun vs H Q _ => ∃ (a : Addr) (k : Str × Int × Int) (ks : List (Str × Int × Int)) (as : List (Str × Str × Int)), vs = [.ref a, .str k.1] ∧ TaskAt C H a ks as ∧ (ks.map (·.1)).Nodup ∧ k ∈ ks ∧ Q (.int k.2.2) H
def foll (as : List (Str × Str × Int)) (n : Str) : List (Str × Str × Int) := as.filter fun a => decide (a.1 = n)
def fv (a : Str × Str × Int) : List V := [.str a.2.1, .int a.2.2]
def spFollowers (C : Addr) : Sp := fun vs H Q _ => ∃ (a : Addr) (n : Str) (ks : List (Str × Int × Int)) (as : List (Str × Str × Int)), vs = [.ref a, .str n] ∧ TaskAt C H a ks as ∧ (ks.map (·.1)).Nodup ∧ n ∈ ks.map (·.1) ∧ as.length ≤ 12 ∧
  ∀ H' l, Same H H' → LRows (newer H H') l ((foll as n).map fv) → Q (.ref l) H'
def spTKinds (C : Addr) : Sp := fun vs H Q _ => ∃ (a : Addr) (ks : List (Str × Int × Int)) (as : List (Str × Str × Int)), vs = [.ref a] ∧ TaskAt C H a ks as ∧ ∀ (l : Addr) us, H l = none → Rows H us (ks.map kv) → Q (.ref l) (L2.upd H l (.lst us))
section
variable {P : Program} {w : World} {K : PySem.W.Frag} {mg : Str → Option Value} {base : Heap}
theorem scTInit : FnScope ["self", "name", "kinds", "arrows"] ["self", "name", "kinds", "arrows"] (defScope sTInit) := ⟨rfl, rfl, rfl, by decide +kernel, rfl, by decide +kernel, by decide +kernel⟩
theorem ok_tInit {f C : Addr} {fd : FuncData} (F : FunA K "__init__" "Task.__init__" sTInit f fd) (T : TaskC K C) (g : Gs mg) (c1 : Cal P w K mg base "need_name" 2 ["text"] spNeedName) (c2 : Cal P w K mg base "checked_kinds" 3 ["kinds", "branching"] spCheckedKinds)
    (c3 : Cal P w K mg base "checked_arrows" 3 ["arrows", "kind_rows"] spCheckedArrows) : FnOk P w K mg base CX0 4 f fd ["self", "name", "kinds", "arrows"] (spTInit C) := by
  refine F.ok scTInit (fun vs H Q E h => ?_) (fun cdv A outer s H vs Q E hr h => ?_)
  · obtain ⟨p, dx, lk, la, nm, ks, as, H1, rfl, _⟩ := h
    rfl
  · obtain ⟨p, dx, lk, la, nm, ks, as, H1, rfl, rfl, hp, hdx, hne, hnm, hlk, hla, ok, k⟩ := h
    refine ⟨_, pss_cons (ps_expr (pc c1 hr (pa_cons (pv 1) pa_nil)))
      (pss_cons (ps_if (pt_not (pt_chain op_le op_le pe_int (pe_callB (lenS K) (by rfl) g.len PySem.boot_len (pa_cons (pv 2) pa_nil)) (pgl_int g.mkd))) (pss_one ps_never) pss_nil)
      (pss_cons (ps_if (pt_cmpR op_gt (pe_callB (lenS K) (by rfl) g.len PySem.boot_len (pa_cons (pv 3) pa_nil)) (pgl_int g.mar) (nomark _)) (pss_one ps_never) pss_nil)
      (pss_cons (ps_fld (pv 0) (pv 1) rfl)
      (pss_cons (ps_fld (pv 0) (pc c2 hr (pa_cons (pv 2) (pa_cons (pe_cmpR op_gt (pe_callB (lenS K) (by rfl) g.len PySem.boot_len (pa_cons (pv 3) pa_nil)) pe_int (nomark _)) pa_nil))) rfl)
      (pss_one (ps_fld (pv 0) (pc c3 hr (pa_cons (pv 3) (pa_cons (pe_fld (pv 0) rfl) pa_nil))) rfl)))))), ?_⟩
    generalize hH0 : L2.upd (L2.upd H1 dx (.own p)) p (.ins C dx []) = H0
    have s0 : Same H1 H0 := by rw [← hH0]; exact Same.trans (same_upd hdx) (same_upd (by rw [upd_ne hne.symm]; exact hp))
    have hp0 : H0 p = some (.ins C dx []) := by rw [← hH0]; exact upd_same
    obtain ⟨us, hus, hur⟩ := id hlk
    obtain ⟨ua, hua, huar⟩ := id hla
    have hul : us.length = ks.length := by rw [hur.length, List.length_map]
    have hal : ua.length = as.length := by rw [huar.length, List.length_map]
    have h1 := ok.k1
    have h4 := ok.k4
    have h12 := ok.a12
    refine ⟨_, rfl, nm, rfl, hnm, fun Ha sa => ?_⟩
    have s1 : Same H1 Ha := Same.trans s0 sa
    refine ⟨_, rfl, lk, us, rfl, .inl (SqL.of (s1 _ _ hus)), _, _, rfl, rfl, true, congrArg V.bl (decide_eq_true (by omega)), ifT rfl ?_⟩
    refine ⟨_, _, rfl, rfl, true, congrArg V.bl (decide_eq_true (by omega)), ifF rfl ?_⟩
    refine ⟨_, rfl, la, ua, rfl, .inl (SqL.of (s1 _ _ hua)), _, _, rfl, rfl, false, congrArg V.bl (decide_eq_false (by omega)), ifF rfl ?_⟩
    -- self.name = name
    refine ⟨_, rfl, _, rfl, p, C, dx, [], rfl, sa _ _ hp0, T.cl, T.nn, (by show 0 < 1000; decide), ?_⟩
    generalize hHb : L2.upd Ha p (.ins C dx (putF "name" (.str nm) [])) = Hb
    have hpb : Hb p = some (.ins C dx (putF "name" (.str nm) [])) := by rw [← hHb]; exact upd_same
    have s2 : Same H1 Hb := by rw [← hHb]; exact same_up s1 hp
    -- self.kind_rows = checked_kinds(..)
    refine ⟨_, rfl, _, rfl, la, ua, rfl, .inl (SqL.of (s2 _ _ hua)), _, _, rfl, rfl, ?_⟩
    refine ⟨lk, decide (0 < (ua.length : Int)), ks, rfl, hlk.keeps s2, ok.nd, h4, ok.nm, fun kk hk => ?_, fun Hc r sc hr1 => ?_⟩
    · have hb : (decide (0 < (ua.length : Int)) = true) ↔ ¬ as = [] := by
        rw [decide_eq_true_iff, ← List.length_eq_zero_iff]
        omega
      obtain ⟨g1, g2, g3, g4⟩ := ok.rg kk hk
      by_cases he : as = []
      · have hb' : ¬ (decide (0 < (ua.length : Int)) = true) := fun z => hb.mp z he
        rw [if_pos he] at g2 g4
        rw [if_neg hb', if_neg hb']
        exact ⟨g1, g2, g3, g4⟩
      · rw [if_neg he] at g2 g4
        rw [if_pos (hb.mpr he), if_pos (hb.mpr he)]
        exact ⟨g1, g2, g3, g4⟩
    refine ⟨_, rfl, p, C, dx, _, rfl, sc _ _ hpb, T.cl, T.nk, ?_, ?_⟩
    · have := len_putF "name" (.str nm) []
      simp only [List.length_nil] at this
      omega
    generalize hHd : L2.upd Hc p (.ins C dx (putF "kind_rows" (.ref r) (putF "name" (.str nm) []))) = Hd
    have hpd : Hd p = some (.ins C dx (putF "kind_rows" (.ref r) (putF "name" (.str nm) []))) := by rw [← hHd]; exact upd_same
    have s3 : Same H1 Hd := by rw [← hHd]; exact same_up (Same.trans s2 sc) hp
    have hr2 : LRows (newer Hb Hd) r (ks.map kv) := by rw [← hHd]; exact hr1.keeps (newer_upd (ne_none hpb))
    -- self.arrow_rows = checked_arrows(..)
    refine ⟨_, rfl, _, rfl, p, C, dx, _, _, rfl, hpd, T.cl, T.nk, (by rw [lookup_putF, if_pos rfl]), ?_⟩
    refine ⟨la, r, as, ks, rfl, hla.keeps s3, hr2.keeps (newer_sub _ _), h4, ok.nm, h12, ok.fs, ok.ag, ok.and, fun He r2 se hr3 => ?_⟩
    refine ⟨_, rfl, p, C, dx, _, rfl, se _ _ hpd, T.cl, T.na, ?_, ?_⟩
    · have e1 := len_putF "name" (.str nm) []
      have e2 := len_putF "kind_rows" (.ref r) (putF "name" (.str nm) [])
      simp only [List.length_nil] at e1
      omega
    have dom1 : ∀ b, H1 b ≠ none → Hb b ≠ none := same_dom s2
    have dom2 : ∀ b, H1 b ≠ none → Hd b ≠ none := same_dom s3
    refine k _ (same_up (Same.trans s3 se) hp) ⟨dx, nm, r, r2, newer_at hp upd_same, ?_, ?_⟩
    · exact (((hr2.keeps (newer_same se)).keeps (newer_upd (ne_none hpb))).keeps (newer_dom dom1))
    · exact (hr3.keeps (newer_upd (ne_none hpd))).keeps (newer_dom dom2)
theorem scRowOf : FnScope ["self", "kind", "row"] ["self", "kind"] (defScope sRowOf) := ⟨rfl, rfl, rfl, by decide +kernel, rfl, by decide +kernel, by decide +kernel⟩
theorem nodup_fst {ks : List (Str × Int × Int)} (h : (ks.map (·.1)).Nodup) {a b : Str × Int × Int} (ha : a ∈ ks) (hb : b ∈ ks) (e : a.1 = b.1) : a = b := by
  have h1 := find_of h ha
  have h2 := find_of h hb
  rw [e, h2] at h1
  exact (Option.some.inj h1).symm
theorem ok_rowOf {f C : Addr} {fd : FuncData} (F : FunA K "row_of" "Task.row_of" sRowOf f fd) (T : TaskC K C) : FnOk P w K mg base CX0 1 f fd ["self", "kind"] (spRowOf C) := by
  refine F.ok scRowOf (fun vs H Q E h => ?_) (fun cdv A outer s H vs Q E hr h => ?_)
  · obtain ⟨a, k, ks, as, rfl, _⟩ := h
    rfl
  · obtain ⟨a, k, ks, as, rfl, ⟨dx, nm, lk, la, ha, ⟨us, hlk, hrows⟩, _⟩, hnd, hk, q⟩ := h
    have hlen : us.length = ks.length := by rw [hrows.length, List.length_map]
    refine ⟨_, pss_cons (ps_for PassesOwn.never rfl (piL K (pe_fld (pv 0) rfl)) (pg_name (i := 2) scRowOf.nd rfl (Or.inl rfl))
        (pss_one (ps_if (pt_cmpR op_eq (pe_ix (ixT K) (pv 2) pe_int (fun _ _ => rfl)) (pv 1) (nomark _)) (pss_one (ps_ret (pv 2))) pss_nil)))
      (pss_one ps_never), ?_⟩
    refine ⟨_, rfl, a, C, dx, _, _, rfl, ha, T.cl, T.nk, tf_kr _ _ _, lk, rfl, ⟨_, SqL.of hlk⟩, ?_⟩
    refine for_list (K := K) (a := lk) (xs := us) (fun i σ Hc => Hc = H ∧ (∃ v : Option V, σ = [some (.ref a), some (.str k.1), v]) ∧ ∀ j x, j < i → ks[j]? = some x → ¬ x.1 = k.1) ⟨rfl, ⟨none, rfl⟩, fun j x hj => absurd hj (Nat.not_lt_zero _)⟩ (fun i σ Hc _ h => by rw [h.1]; exact SqL.of hlk) ?_ ?_
    · rintro i x σ Hc hi ⟨rfl, ⟨v, rfl⟩, hno⟩
      obtain ⟨xs, hxs, t, rfl, ht⟩ := hrows.get hi
      rw [List.getElem?_map] at hxs
      obtain ⟨kk, hkk, rfl⟩ := Option.map_eq_some_iff.mp hxs
      refine ⟨_, rfl, t, _, 0, .str kk.1, rfl, rfl, SqT.of ht, atI_nat (j := 0) rfl, _, rfl, rfl, _, rfl, ?_⟩
      by_cases he : kk.1 = k.1
      · refine ifT (decide_eq_true (by rw [he])) ?_
        have : kk = k := nodup_fst hnd (List.mem_of_getElem? hkk) hk he
        subst this
        exact ⟨_, rfl, q t ht⟩
      · refine ifF (decide_eq_false (fun z => he (by injection z))) ?_
        refine ⟨rfl, ⟨_, rfl⟩, fun j y hj hy => ?_⟩
        by_cases hji : j = i
        · subst hji
          rw [hkk] at hy
          cases hy
          exact he
        · exact hno j y (by omega) hy
    · rintro σ Hc ⟨rfl, ⟨v, rfl⟩, hno⟩
      obtain ⟨j, hj, e⟩ := List.mem_iff_getElem.mp hk
      exact hno j k (by omega) (by rw [List.getElem?_eq_getElem hj, e]) rfl
theorem scCostOf : FnScope ["self", "kind"] ["self", "kind"] (defScope sCostOf) := ⟨rfl, rfl, rfl, by decide +kernel, rfl, by decide +kernel, by decide +kernel⟩
theorem ok_costOf {f C fR : Addr} {fd fdR : FuncData} (F : FunA K "cost_of" "Task.cost_of" sCostOf f fd) (T : TaskC K C) (G : FnOk P w K mg base CX0 1 fR fdR ["self", "kind"] (spRowOf C)) (m : Meth K C "row_of" fR) (b : Binds K fdR ["self", "kind"] []) : FnOk P w K mg base CX0 2 f fd ["self", "kind"] (spCostOf C) := by
  refine F.ok scCostOf (fun vs H Q E h => ?_) (fun cdv A outer s H vs Q E hr h => ?_)
  · obtain ⟨a, k, ks, as, rfl, _⟩ := h
    rfl
  · obtain ⟨a, k, ks, as, rfl, hT, hnd, hk, q⟩ := h
    obtain ⟨dx, nm, lk, la, ha, _⟩ := id hT
    refine ⟨_, pss_one (ps_ret (pe_ix (ixT K) (pe_meth (pv 0) T.cl m G hr b .nil pass0 (pa_cons (pv 1) pa_nil)) pe_int (fun _ _ => rfl))), ?_⟩
    refine ⟨_, rfl, a, dx, _, rfl, ha, tf_no _ _ _ (by decide +kernel) (by decide +kernel) (by decide +kernel), _, rfl, a, k, ks, as, rfl, hT, hnd, hk, fun t ht => ?_⟩
    exact ⟨t, _, 1, .int k.2.1, rfl, rfl, SqT.of ht, atI_nat (j := 1) rfl, q⟩
theorem scDeadlineOf : FnScope ["self", "kind"] ["self", "kind"] (defScope sDeadlineOf) := ⟨rfl, rfl, rfl, by decide +kernel, rfl, by decide +kernel, by decide +kernel⟩
theorem ok_deadlineOf {f C fR : Addr} {fd fdR : FuncData} (F : FunA K "deadline_of" "Task.deadline_of" sDeadlineOf f fd) (T : TaskC K C) (G : FnOk P w K mg base CX0 1 fR fdR ["self", "kind"] (spRowOf C)) (m : Meth K C "row_of" fR) (b : Binds K fdR ["self", "kind"] []) : FnOk P w K mg base CX0 2 f fd ["self", "kind"] (spDeadlineOf C) := by
  refine F.ok scDeadlineOf (fun vs H Q E h => ?_) (fun cdv A outer s H vs Q E hr h => ?_)
  · obtain ⟨a, k, ks, as, rfl, _⟩ := h
    rfl
  · obtain ⟨a, k, ks, as, rfl, hT, hnd, hk, q⟩ := h
    obtain ⟨dx, nm, lk, la, ha, _⟩ := id hT
    refine ⟨_, pss_one (ps_ret (pe_ix (ixT K) (pe_meth (pv 0) T.cl m G hr b .nil pass0 (pa_cons (pv 1) pa_nil)) pe_int (fun _ _ => rfl))), ?_⟩
    refine ⟨_, rfl, a, dx, _, rfl, ha, tf_no _ _ _ (by decide +kernel) (by decide +kernel) (by decide +kernel), _, rfl, a, k, ks, as, rfl, hT, hnd, hk, fun t ht => ?_⟩
    exact ⟨t, _, 2, .int k.2.2, rfl, rfl, SqT.of ht, atI_nat (j := 2) rfl, q⟩
theorem scTKinds : FnScope ["self"] ["self"] (defScope sTKinds) := ⟨rfl, rfl, rfl, by decide +kernel, rfl, by decide +kernel, by decide +kernel⟩
theorem ok_tKinds {f C : Addr} {fd : FuncData} (F : FunA K "kinds" "Task.kinds" sTKinds f fd) (T : TaskC K C) (g : Gs mg) : FnOk P w K mg base CX0 1 f fd ["self"] (spTKinds C) := by
  refine F.ok scTKinds (fun vs H Q E h => ?_) (fun cdv A outer s H vs Q E hr h => ?_)
  · obtain ⟨a, ks, as, rfl, _⟩ := h
    rfl
  · obtain ⟨a, ks, as, rfl, hT, q⟩ := h
    obtain ⟨dx, nm, lk, la, ha, ⟨us, hlk, hrows⟩, _⟩ := id hT
    refine ⟨_, pss_one (ps_ret (pe_callTy (lstS K) (by rfl) g.list (by decide +kernel) (pa_cons (pe_fld (pv 0) rfl) pa_nil))), ?_⟩
    exact ⟨_, rfl, a, C, dx, _, _, rfl, ha, T.cl, T.nk, tf_kr _ _ _, lk, us, rfl, .inl (SqL.of hlk), fun l hl => q l us hl hrows⟩
theorem scFollowers : FnScope ["self", "kind", "first", "second", "gap"] ["self", "kind"] (defScope sFollowers) := ⟨rfl, rfl, rfl, by decide +kernel, rfl, by decide +kernel, by decide +kernel⟩
theorem foll_take {as : List (Str × Str × Int)} {n : Str} {i : Nat} {a : Str × Str × Int} (h : as[i]? = some a) : foll (as.take (i + 1)) n = foll (as.take i) n ++ (if a.1 = n then [a] else []) := by
  unfold foll
  rw [take_snoc h, List.filter_append]
  congr 1
  by_cases e : a.1 = n
  · rw [if_pos e, List.filter_cons_of_pos (by simpa using e)]
    rfl
  · rw [if_neg e, List.filter_cons_of_neg (by simpa using e)]
    rfl
theorem ok_followers {f C fR : Addr} {fd fdR : FuncData} (F : FunA K "followers" "Task.followers" sFollowers f fd) (T : TaskC K C) (G : FnOk P w K mg base CX0 1 fR fdR ["self", "kind"] (spRowOf C)) (m : Meth K C "row_of" fR) (b : Binds K fdR ["self", "kind"] []) : FnOk P w K mg base CX0 2 f fd ["self", "kind"] (spFollowers C) := by
  refine F.ok scFollowers (fun vs H Q E h => ?_) (fun cdv A outer s H vs Q E hr h => ?_)
  · obtain ⟨a, n, ks, as, rfl, _⟩ := h
    rfl
  · obtain ⟨a, n, ks, as, rfl, hT, hnd, hn, h12, q⟩ := h
    obtain ⟨dx, nm, lk, la, ha, _, us, hla, hrows⟩ := id hT
    obtain ⟨k, hk, rfl⟩ := List.mem_map.mp hn
    have hlen : us.length = as.length := by rw [hrows.length, List.length_map]
    refine ⟨_, pss_cons (ps_expr (pe_meth (pv 0) T.cl m G hr b .nil pass0 (pa_cons (pv 1) pa_nil)))
      (pss_one (ps_ret (pe_lc (own := [("first", 2), ("second", 3), ("gap", 4)]) rfl scFollowers.nd (piL K (pe_fld (pv 0) rfl)) (blkOk_by (N := ["self", "kind", "first", "second", "gap"]) (sc := defScope sFollowers) (by decide +kernel))
        (fun _ _ _ _ _ => pgT K (n := 3) (pgs_cons (pg_name (i := 2) scFollowers.nd rfl (Or.inl rfl)) (pgs_cons (pg_name (i := 3) scFollowers.nd rfl (Or.inl rfl)) (pgs_cons (pg_name (i := 4) scFollowers.nd rfl (Or.inl rfl)) pgs_nil))))
        (fun _ _ _ _ _ => pts_one (pt_cmpR op_eq (pv 2) (pv 1) (nomark _))) (fun _ _ _ _ _ => pe_tup (pa_cons (pv 3) (pa_cons (pv 4) pa_nil)))))), ?_⟩
    refine ⟨_, rfl, a, dx, _, rfl, ha, tf_no _ _ _ (by decide +kernel) (by decide +kernel) (by decide +kernel), _, rfl, a, k, ks, as, rfl, hT, hnd, hk, fun t _ => ?_⟩
    refine ⟨_, rfl, a, C, dx, _, _, rfl, ha, T.cl, T.na, tf_ar _ _ _, la, rfl, ⟨_, SqL.of hla⟩, fun D hD => ?_⟩
    refine lc_it (walk_list (K := K) (a := la) (xs := us)) (fun i Hc => Same H Hc ∧ ∃ vs, Hc D = some (.lst vs) ∧ Rows (newer H Hc) vs ((foll (as.take i) k.1).map fv)) ⟨same_upd hD, [], upd_same, .nil⟩ (fun i Hc _ h => SqL.of (h.1 _ _ hla)) ?_ ?_
    · rintro i x _ Hc hi ⟨s1, vs, hvs, hrw⟩ ⟨rfl, hx⟩
      obtain ⟨xs, hxs, t, rfl, ht⟩ := hrows.get hx
      rw [List.getElem?_map] at hxs
      obtain ⟨aa, haa, rfl⟩ := Option.map_eq_some_iff.mp hxs
      refine ⟨t, _, rfl, SqT.of (s1 _ _ ht), rfl, _, _, rfl, _, _, rfl, _, _, rfl, rfl, rfl, ?_⟩
      refine ⟨_, rfl, _, rfl, rfl, _, rfl, ?_⟩
      by_cases he : aa.1 = k.1
      · refine ifT (decide_eq_true (by rw [he])) ?_
        refine ⟨_, rfl, _, rfl, (by show 2 ≤ sizeLine; decide), fun t2 ht2 => ⟨vs, same_upd ht2 _ _ hvs, ?_, ?_⟩⟩
        · have e1 := hrw.length
          have e2 : (foll (as.take i) k.1).length ≤ (as.take i).length := List.length_filter_le _ _
          rw [List.length_map] at e1
          rw [List.length_take] at e2
          rw [sizeLine_eq]
          omega
        · refine ⟨same_up (same_up s1 (Same.free s1 ht2)) hD, _, upd_same, ?_⟩
          rw [foll_take haa, if_pos he, List.map_append]
          refine All2.snoc (hrw.mono fun v xs q => ?_) ⟨t2, rfl, newer_at (Same.free s1 ht2) (by rw [upd_ne (ne_of_none hvs ht2).symm]; exact upd_same)⟩
          obtain ⟨b, eb, hb⟩ := q
          have hb3 := newer_sub _ _ _ _ hb
          exact ⟨b, eb, newer_at (newer_none hb) (by rw [upd_ne (ne_of hb3 hvs (by intro z; cases z)), upd_ne (ne_of_none hb3 ht2)]; exact hb3)⟩
      · refine ifF (decide_eq_false (fun z => he (by injection z))) ?_
        refine ⟨s1, vs, hvs, ?_⟩
        rw [foll_take haa, if_neg he, List.append_nil]
        exact hrw
    · rintro Hc ⟨s1, vs, hvs, hrw⟩
      rw [hlen, List.take_length] at hrw
      exact q Hc D s1 ⟨vs, newer_at hD hvs, hrw⟩
end
end WD
/-! gap_between, check_job, check_counts -/
namespace WD
open PySem PySem.Spec PyProof.Rows L2
abbrev sGapBetween : Stmt := top 16
abbrev sCheckJob : Stmt := top 17
abbrev sCheckCounts : Stmt := top 18
def jv (j : Str × Int × Int) : List V := [.str j.1, .int j.2.1, .int j.2.2]
/-- a list of walks -/
def LWalks (G : Hp) (l : Addr) (ws : List (List (Str × Int × Int))) : Prop := ∃ vs, G l = some (.lst vs) ∧ All2 (fun v w => ∃ a, v = V.ref a ∧ LRows G a (w.map jv)) vs ws
theorem LWalks.keeps {G G' : Hp} {l : Addr} {ws : List (List (Str × Int × Int))} (h : LWalks G l ws) (s : Same G G') : LWalks G' l ws := by
  obtain ⟨vs, h1, h2⟩ := h
  exact ⟨vs, s _ _ h1, h2.mono fun v w ⟨a, e, q⟩ => ⟨a, e, q.keeps s⟩⟩
def spGapBetween (C : Addr) : Sp := fun vs H Q _ => ∃ (a : Addr) (n m : Str) (g : Int) (ks : List (Str × Int × Int)) (as : List (Str × Str × Int)), vs = [.ref a, .str n, .str m] ∧ TaskAt C H a ks as ∧ TaskOk ks as ∧ (n, m, g) ∈ as ∧ ∀ H', Same H H' → Q (.int g) H'
def spCheckJob (C : Addr) : Sp := fun vs H Q _ => ∃ (a l : Addr) (ix g : Int) (p : Nat) (w : List (Str × Int × Int)) (ks : List (Str × Int × Int)) (as : List (Str × Str × Int)), vs = [.ref a, .ref l, .int ix, .int (p : Int), .int g] ∧ TaskAt C H a ks as ∧ TaskOk ks as ∧ LRows H l (w.map jv) ∧ WalkOk ks as g w ∧ p < w.length ∧ w.length ≤ 1000 ∧ 1 ≤ g ∧ g ≤ 60 ∧ ∀ H', Same H H' → Q .non H'
def spCheckCounts : Sp := fun vs H Q _ => ∃ (lt lw : Addr) (g : Int) (ts : List V) (ws : List (List (Str × Int × Int))), vs = [.ref lt, .ref lw, .int g] ∧ H lt = some (.lst ts) ∧ LWalks H lw ws ∧ ts.length = ws.length ∧ (ws.map fun w => (w.length : Int)).sum ≤ 400 ∧ ws.length ≤ 1000 ∧ 1 ≤ g ∧ g ≤ 60 ∧ ∀ H', Same H H' → Q .non H'
section
variable {P : Program} {w : World} {K : PySem.W.Frag} {mg : Str → Option Value} {base : Heap}
theorem scGapBetween : FnScope ["task", "first", "second", "kind", "gap"] ["task", "first", "second"] (defScope sGapBetween) := ⟨rfl, rfl, rfl, by decide +kernel, rfl, by decide +kernel, by decide +kernel⟩
/-- a method of a task -/
theorem tk_no (nm : Str) (lk la : Addr) : (tf nm lk la).lookup ("followers" : Str) = none := tf_no _ _ _ (by decide +kernel) (by decide +kernel) (by decide +kernel)
theorem tk_noC (nm : Str) (lk la : Addr) : (tf nm lk la).lookup ("cost_of" : Str) = none := tf_no _ _ _ (by decide +kernel) (by decide +kernel) (by decide +kernel)
theorem tk_noD (nm : Str) (lk la : Addr) : (tf nm lk la).lookup ("deadline_of" : Str) = none := tf_no _ _ _ (by decide +kernel) (by decide +kernel) (by decide +kernel)
theorem arrow_unique {as : List (Str × Str × Int)} (h : (as.map fun a => (a.1, a.2.1)).Nodup) {a b : Str × Str × Int} (ha : a ∈ as) (hb : b ∈ as) (e1 : a.1 = b.1) (e2 : a.2.1 = b.2.1) : a = b := by
  obtain ⟨i, hi, rfl⟩ := List.mem_iff_getElem.mp ha
  obtain ⟨j, hj, rfl⟩ := List.mem_iff_getElem.mp hb
  have e : (as.map fun a => (a.1, a.2.1))[i]? = (as.map fun a => (a.1, a.2.1))[j]? := by
    rw [List.getElem?_map, List.getElem?_map, List.getElem?_eq_getElem hi, List.getElem?_eq_getElem hj]
    exact congrArg some (Prod.ext e1 e2)
  have hi' : i < (as.map fun a => (a.1, a.2.1)).length := by rw [List.length_map]; exact hi
  have : i = j := L2.nd_ix h (List.getElem?_eq_getElem hi') (by rw [← e]; exact List.getElem?_eq_getElem hi')
  subst this
  rfl
theorem ok_gapBetween {f C fR : Addr} {fd fdR : FuncData} (F : Fun K "gap_between" "gap_between" sGapBetween f fd) (T : TaskC K C) (G : FnOk P w K mg base CX0 2 fR fdR ["self", "kind"] (spFollowers C)) (m : Meth K C "followers" fR) (b : Binds K fdR ["self", "kind"] []) : FnOk P w K mg base CX0 3 f fd ["task", "first", "second"] (spGapBetween C) := by
  refine F.ok scGapBetween (fun vs H Q E h => ?_) (fun cdv A outer s H vs Q E hr h => ?_)
  · obtain ⟨a, n, m, g, ks, as, rfl, _⟩ := h
    rfl
  · obtain ⟨a, n, m', g, ks, as, rfl, hT, ok, hmem, q⟩ := h
    obtain ⟨dx, nm, lk, la, ha, _⟩ := id hT
    refine ⟨_, pss_cons (ps_for PassesOwn.never rfl (piL K (pe_meth (pv 0) T.cl m G hr b .nil pass0 (pa_cons (pv 1) pa_nil))) (pgT K (pgs_cons (pg_name (i := 3) scGapBetween.nd rfl (Or.inl rfl)) (pgs_cons (pg_name (i := 4) scGapBetween.nd rfl (Or.inl rfl)) pgs_nil)))
        (pss_one (ps_if (pt_cmpR op_eq (pv 3) (pv 2) (nomark _)) (pss_one (ps_ret (pv 4))) pss_nil)))
      (pss_one (ps_ret pe_non)), ?_⟩
    refine ⟨_, rfl, a, dx, _, rfl, ha, tk_no _ _ _, _, rfl, a, n, ks, as, rfl, hT, ok.nd, (ok.fs _ hmem).1, ok.a12, fun H1 l s1 hl => ?_⟩
    obtain ⟨us, hus, hrows⟩ := hl.keeps (newer_sub _ _)
    have hlen : us.length = (foll as n).length := by rw [hrows.length, List.length_map]
    refine ⟨l, rfl, ⟨_, SqL.of hus⟩, for_list (K := K) (a := l) (xs := us) (fun i σ Hc => Hc = H1 ∧ (∃ v3 v4 : Option V, σ = [some (.ref a), some (.str n), some (.str m'), v3, v4]) ∧ ∀ j x, j < i → (foll as n)[j]? = some x → ¬ x.2.1 = m') ⟨rfl, ⟨none, none, rfl⟩, fun j x hj => absurd hj (Nat.not_lt_zero _)⟩ (fun i σ Hc _ h => by rw [h.1]; exact SqL.of hus) ?_ ?_⟩
    · rintro i x σ Hc hi ⟨rfl, ⟨v3, v4, rfl⟩, hno⟩
      obtain ⟨xs, hxs, t, rfl, ht⟩ := hrows.get hi
      rw [List.getElem?_map] at hxs
      obtain ⟨aa, haa, rfl⟩ := Option.map_eq_some_iff.mp hxs
      have hm2 : aa ∈ as ∧ aa.1 = n := by
        have := List.mem_of_getElem? haa
        unfold foll at this
        rw [List.mem_filter] at this
        exact ⟨this.1, by simpa using this.2⟩
      refine ⟨t, _, rfl, SqT.of ht, rfl, _, _, rfl, _, _, rfl, rfl, ?_⟩
      refine ⟨_, rfl, _, rfl, rfl, _, rfl, ?_⟩
      by_cases he : aa.2.1 = m'
      · refine ifT (decide_eq_true (by rw [he])) ?_
        have e : aa = (n, m', g) := arrow_unique ok.and hm2.1 hmem hm2.2 he
        exact ⟨_, rfl, by rw [e]; exact q _ s1⟩
      · refine ifF (decide_eq_false (fun z => he (by injection z))) ?_
        refine ⟨rfl, ⟨_, _, rfl⟩, fun j y hj hy => ?_⟩
        by_cases hji : j = i
        · subst hji
          rw [haa] at hy
          cases hy
          exact he
        · exact hno j y (by omega) hy
    · rintro σ Hc ⟨rfl, ⟨v3, v4, rfl⟩, hno⟩
      have hm3 : (n, m', g) ∈ foll as n := by
        unfold foll
        rw [List.mem_filter]
        exact ⟨hmem, by simp⟩
      obtain ⟨j, hj, e⟩ := List.mem_iff_getElem.mp hm3
      exact absurd rfl (hno j (n, m', g) (by omega) (by rw [List.getElem?_eq_getElem hj, e]))
theorem scCheckJob : FnScope ["task", "walk", "index", "place", "grain", "kind", "release", "cost", "full", "before", "gap"] ["task", "walk", "index", "place", "grain"] (defScope sCheckJob) := ⟨rfl, rfl, rfl, by decide +kernel, rfl, by decide +kernel, by decide +kernel⟩
theorem ok_checkJob {f C fR : Addr} {fd fdR : FuncData} (F : Fun K "check_job" "check_job" sCheckJob f fd) (T : TaskC K C) (G : FnOk P w K mg base CX0 2 fR fdR ["self", "kind"] (spCostOf C)) (m : Meth K C "cost_of" fR) (b : Binds K fdR ["self", "kind"] [])
    (c1 : Cal P w K mg base "gap_between" 3 ["task", "first", "second"] (spGapBetween C)) : FnOk P w K mg base CX0 4 f fd ["task", "walk", "index", "place", "grain"] (spCheckJob C) := by
  refine F.ok scCheckJob (fun vs H Q E h => ?_) (fun cdv A outer s H vs Q E hr h => ?_)
  · obtain ⟨a, l, ix, g, p, w, ks, as, rfl, _⟩ := h
    rfl
  · obtain ⟨a, l, ix, g, p, w', ks, as, rfl, hT, ok, ⟨us, hus, hrows⟩, hw, hp, hz, hg1, hg2, q⟩ := h
    obtain ⟨dx, nm, lk, la, ha, _⟩ := id hT
    have hul : us.length = w'.length := by rw [hrows.length, List.length_map]
    obtain ⟨j, hj⟩ : ∃ j, w'[p]? = some j := ⟨_, List.getElem?_eq_getElem hp⟩
    obtain ⟨v, hv, t, rfl, ht⟩ := hrows.get' (i := p) (b := jv j) (by rw [List.getElem?_map, hj]; rfl)
    obtain ⟨hjn, hj0, hjc1, hjc2⟩ := hw.job j (List.mem_of_getElem? hj)
    obtain ⟨k, hk, ek⟩ := List.mem_map.mp hjn
    have ec : costOf ks j.1 = k.2.1 := by rw [← ek]; exact costOf_of ok.nd hk
    have hrg := ok.rg k hk
    have hc99 : k.2.1 ≤ 99 := by
      have := hrg.2.1
      split at this <;> omega
    have hr2 : Room 2 _ := hr.mono (by decide)
    refine ⟨_, pss_cons (ps_asg (pe_ix (ixL K) (pv 1) (pv 3) (fun _ _ => rfl)) (pgT K (pgs_cons (pg_name (i := 5) scCheckJob.nd rfl (Or.inl rfl)) (pgs_cons (pg_name (i := 6) scCheckJob.nd rfl (Or.inl rfl)) (pgs_cons (pg_name (i := 7) scCheckJob.nd rfl (Or.inl rfl)) pgs_nil)))))
      (pss_cons (ps_set (i := 8) scCheckJob.nd rfl (Or.inl rfl) (pe_op op_mul (pe_meth (pv 0) T.cl m G hr2 b .nil pass0 (pa_cons (pv 5) pa_nil)) (pv 4)))
      (pss_cons (ps_if (pt_not (pt_chain op_le op_le pe_int (pv 7) (pv 8))) (pss_one ps_never) pss_nil)
      (pss_cons (ps_if (pt_cmpR op_lt (pv 6) pe_int (nomark _)) (pss_one ps_never) pss_nil)
      (pss_cons (ps_if (pt_cmpR op_eq (pv 3) pe_int (nomark _)) (pss_one ps_retN) pss_nil)
      (pss_cons (ps_set (i := 9) scCheckJob.nd rfl (Or.inl rfl) (pe_ix (ixL K) (pv 1) (pe_op op_sub (pv 3) pe_int) (fun _ _ => rfl)))
      (pss_cons (ps_set (i := 10) scCheckJob.nd rfl (Or.inl rfl) (pc c1 hr (pa_cons (pv 0) (pa_cons (pe_ix (ixT K) (pv 9) pe_int (fun _ _ => rfl)) (pa_cons (pv 5) pa_nil)))))
      (pss_cons (ps_if (pt_cmpR op_isN (pv 10) pe_non (nomark _)) (pss_one ps_never) pss_nil)
      (pss_one (ps_if (pt_cmpR op_lt (pe_op op_sub (pv 6) (pe_ix (ixT K) (pv 9) pe_int (fun _ _ => rfl))) (pe_op op_mul (pv 10) (pv 4)) (nomark _)) (pss_one ps_never) pss_nil))))))))), ?_⟩
    refine ⟨_, rfl, _, rfl, l, us, (p : Int), .ref t, rfl, rfl, SqL.of hus, atI_nat hv, t, _, rfl, SqT.of ht, rfl, _, _, rfl, _, _, rfl, _, _, rfl, rfl, ?_⟩
    refine ⟨_, rfl, a, dx, _, rfl, ha, tk_noC _ _ _, _, rfl, a, k, ks, as, (by rw [ek]; rfl), hT, ok.nd, hk, ?_⟩
    refine ⟨_, rfl, _, _, rfl, rfl, .inl ⟨by omega, by omega⟩, ?_⟩
    rw [ec] at hjc2
    refine ⟨_, rfl, _, _, rfl, rfl, true, congrArg V.bl (decide_eq_true hjc1), ifT rfl ?_⟩
    refine ⟨_, rfl, _, _, rfl, rfl, true, congrArg V.bl (decide_eq_true hjc2), ifF rfl ?_⟩
    refine ⟨_, rfl, _, _, rfl, rfl, false, congrArg V.bl (decide_eq_false (by omega)), ifF rfl ?_⟩
    refine ⟨_, rfl, rfl, _, rfl, ?_⟩
    by_cases hp0 : p = 0
    · refine ifT (decide_eq_true (by rw [hp0]; rfl)) ?_
      exact q _ (Same.refl _)
    · refine ifF (decide_eq_false (fun z => hp0 (by
        injection z with z
        omega))) ?_
      obtain ⟨j', hj'⟩ : ∃ j', w'[p - 1]? = some j' := ⟨_, List.getElem?_eq_getElem (by omega)⟩
      obtain ⟨v', hv', t', rfl, ht'⟩ := hrows.get' (i := p - 1) (b := jv j') (by rw [List.getElem?_map, hj']; rfl)
      obtain ⟨gap, hgm, hgle⟩ := hw.adj (p - 1) j' j hj' (by rw [show p - 1 + 1 = p by omega]; exact hj)
      have hgr := ok.ag _ hgm
      simp only at hgr
      refine ⟨_, rfl, _, rfl, _, _, rfl, rfl, l, us, ((p - 1 : Nat) : Int), .ref t', rfl, congrArg V.int (by show (p : Int) - 1 = _; omega), SqL.of hus, atI_nat hv', ?_⟩
      refine ⟨_, rfl, _, rfl, t', _, 0, .str j'.1, rfl, rfl, SqT.of ht', atI_nat (j := 0) rfl, _, rfl, a, j'.1, j.1, gap, ks, as, rfl, hT, ok, hgm, fun H1 s1 => ?_⟩
      refine ⟨_, rfl, rfl, false, congrArg V.bl (decide_eq_false (fun z => by cases z)), ifF rfl ?_⟩
      refine ⟨_, rfl, _, rfl, t', _, 1, .int j'.2.1, rfl, rfl, SqT.of (s1 _ _ ht'), atI_nat (j := 1) rfl, _, _, rfl, rfl, _, rfl, _, rfl, _, _, rfl, rfl, .inl ⟨by omega, by omega⟩, ?_⟩
      exact ⟨_, _, rfl, rfl, false, congrArg V.bl (decide_eq_false (by omega)), ifF rfl (q _ s1)⟩
theorem scCheckCounts : FnScope ["tasks", "walks", "grain", "total", "walk"] ["tasks", "walks", "grain"] (defScope sCheckCounts) := ⟨rfl, rfl, rfl, by decide +kernel, rfl, by decide +kernel, by decide +kernel⟩
theorem ok_checkCounts {f : Addr} {fd : FuncData} (F : Fun K "check_counts" "check_counts" sCheckCounts f fd) (g : Gs mg) : FnOk P w K mg base CX0 1 f fd ["tasks", "walks", "grain"] spCheckCounts := by
  refine F.ok scCheckCounts (fun vs H Q E h => ?_) (fun cdv A outer s H vs Q E hr h => ?_)
  · obtain ⟨lt, lw, g, ts, ws, rfl, _⟩ := h
    rfl
  · obtain ⟨lt, lw, gr, ts, ws, rfl, hts, ⟨us, hus, hrows⟩, htw, hsum, hz, hg1, hg2, q⟩ := h
    have hul : us.length = ws.length := hrows.length
    refine ⟨_, pss_cons (ps_if (pt_not (pt_chain op_le op_le pe_int (pv 2) (pgl_int g.grain))) (pss_one ps_never) pss_nil)
      (pss_cons (ps_if (pt_cmpR op_ne (pe_callB (lenS K) (by rfl) g.len PySem.boot_len (pa_cons (pv 1) pa_nil)) (pe_callB (lenS K) (by rfl) g.len PySem.boot_len (pa_cons (pv 0) pa_nil)) (nomark _)) (pss_one ps_never) pss_nil)
      (pss_cons (ps_set (i := 3) scCheckCounts.nd rfl (Or.inl rfl) (pe_callB (sumS K) (by rfl) g.sum (by decide +kernel) (pa_cons (pe_lc (own := [("walk", 4)]) (tt := tYes) rfl scCheckCounts.nd (piL K (pv 1)) (blkOk_by (N := ["tasks", "walks", "grain", "total", "walk"]) (sc := defScope sCheckCounts) (by decide +kernel))
          (fun _ _ _ _ _ => pg_name (i := 4) scCheckCounts.nd rfl (Or.inl rfl)) (fun _ _ _ _ _ => pts_nil) (fun _ _ _ _ _ => pe_callB (lenS K) (by rfl) g.len PySem.boot_len (pa_cons (pv 4) pa_nil))) pa_nil)))
      (pss_one (ps_if (pt_cmpR op_gt (pv 3) (pgl_int g.job) (nomark _)) (pss_one ps_never) pss_nil)))), ?_⟩
    refine ⟨_, rfl, _, _, rfl, rfl, true, congrArg V.bl (decide_eq_true hg1), ifT rfl ?_⟩
    refine ⟨_, _, rfl, rfl, true, congrArg V.bl (decide_eq_true hg2), ifF rfl ?_⟩
    refine ⟨_, rfl, lw, us, rfl, .inl (SqL.of hus), _, rfl, lt, ts, rfl, .inl (SqL.of hts), rfl, false, ?_, ifF rfl ?_⟩
    · show V.bl (!decide (V.int (us.length : Int) = V.int (ts.length : Int))) = V.bl false
      rw [hul, htw, decide_eq_true rfl]
      rfl
    refine ⟨_, rfl, lw, rfl, ⟨_, SqL.of hus⟩, fun D hD => ?_⟩
    refine lcy (walk_list (K := K) (a := lw) (xs := us)) (fun i Hc => Same H Hc ∧ Hc D = some (.lst (((ws.take i).map fun w => (w.length : Int)).map V.int))) ⟨same_upd hD, upd_same⟩ (fun i Hc _ h => SqL.of (h.1 _ _ hus)) ?_ ?_
    · rintro i x _ Hc hi ⟨s1, hD1⟩ ⟨rfl, hx⟩
      obtain ⟨w1, hw1, a, rfl, vs, hvs, hvr⟩ := hrows.get hx
      refine ⟨rfl, _, rfl, a, vs, rfl, .inl (SqL.of (s1 _ _ hvs)), _, hD1, ?_, same_up s1 hD, ?_⟩
      · rw [List.length_map, List.length_map, List.length_take, sizeLine_eq]
        omega
      · have e : (vs.length : Int) = (w1.length : Int) := by rw [hvr.length, List.length_map]
        rw [upd_same, take_snoc hw1, List.map_append, List.map_append, e]
        rfl
    · rintro Hc ⟨s1, hD1⟩
      rw [hul, List.take_length] at hD1
      refine ⟨D, _, rfl, SqL.of hD1, ?_⟩
      exact ⟨_, rfl, _, _, rfl, rfl, false, congrArg V.bl (decide_eq_false (by omega)), ifF rfl (q _ s1)⟩
end
end WD
/-! Run -/
namespace WD
open PySem PySem.Spec PyProof.Rows L2
abbrev sRInit : Stmt := inClass (top 19) 0
abbrev sRJobs : Stmt := inClass (top 19) 1
/-- a job of a run -/
structure Jb where
  i : Int
  p : Int
  n : Str
  r : Int
  c : Int
  d : Int
def Jb.vals (x : Jb) : List V := [.int x.i, .int x.p, .str x.n, .int x.r, .int x.c, .int x.d]
def Rw.jb (x : Rw) : Jb := ⟨x.i, x.p, x.n, x.r, x.c, x.d⟩
/-- a walk with its task -/
structure It3 where
  w : List (Str × Int × Int)
  ks : List (Str × Int × Int)
  as : List (Str × Str × Int)
def rowsW (ks : List (Str × Int × Int)) (g : Int) (i : Nat) : Nat → List (Str × Int × Int) → List Jb
  | _, [] => []
  | j, x :: w => ⟨(i : Int), (j : Int), x.1, x.2.1, x.2.2, due ks g x⟩ :: rowsW ks g i (j + 1) w
theorem rowsW_snoc {ks : List (Str × Int × Int)} {g : Int} {i : Nat} {x : Str × Int × Int} : ∀ (w : List (Str × Int × Int)) (j : Nat), rowsW ks g i j (w ++ [x]) = rowsW ks g i j w ++ [⟨(i : Int), ((j + w.length : Nat) : Int), x.1, x.2.1, x.2.2, due ks g x⟩]
  | [], j => rfl
  | y :: w, j => by
    show _ :: rowsW ks g i (j + 1) (w ++ [x]) = _ :: (rowsW ks g i (j + 1) w ++ _)
    rw [rowsW_snoc w (j + 1)]
    have e : j + 1 + w.length = j + (y :: w).length := by rw [List.length_cons]; omega
    rw [e]
theorem rowsW_len {ks : List (Str × Int × Int)} {g : Int} {i : Nat} : ∀ (w : List (Str × Int × Int)) (j : Nat), (rowsW ks g i j w).length = w.length
  | [], j => rfl
  | y :: w, j => congrArg Nat.succ (rowsW_len w (j + 1))
def rowsV (g : Int) : Nat → List It3 → List Jb
  | _, [] => []
  | i, x :: r => rowsW x.ks g i 0 x.w ++ rowsV g (i + 1) r
theorem rowsV_snoc {g : Int} {x : It3} : ∀ (l : List It3) (i : Nat), rowsV g i (l ++ [x]) = rowsV g i l ++ rowsW x.ks g (i + l.length) 0 x.w
  | [], i => by
    show rowsW x.ks g i 0 x.w ++ [] = [] ++ _
    rw [List.append_nil, List.nil_append]
    rfl
  | y :: l, i => by
    show rowsW y.ks g i 0 y.w ++ rowsV g (i + 1) (l ++ [x]) = _
    rw [rowsV_snoc l (i + 1), ← List.append_assoc]
    have e : i + 1 + l.length = i + (y :: l).length := by rw [List.length_cons]; omega
    rw [e]
    rfl
theorem rowsV_len {g : Int} : ∀ (l : List It3) (i : Nat), (∀ x ∈ l, x.w.length ≤ 1000) → (rowsV g i l).length ≤ 1000 * l.length
  | [], _, _ => by simp [rowsV]
  | x :: l, i, h => by
    have ih := rowsV_len (g := g) l (i + 1) fun y hy => h y (List.mem_cons_of_mem _ hy)
    have h1 := h x (List.mem_cons_self ..)
    show (rowsW x.ks g i 0 x.w ++ rowsV g (i + 1) l).length ≤ _
    rw [List.length_append, rowsW_len, List.length_cons]
    omega
def rf (g : Int) (lp : Addr) : List (Str × V) := putF "placed" (.ref lp) (putF "grain" (.int g) [])
theorem m1 : ¬ (("grain" : Str) = "placed") := by decide +kernel
theorem rf_placed (g : Int) (lp : Addr) : (rf g lp).lookup ("placed" : Str) = some (.ref lp) := by
  unfold rf
  rw [lookup_putF, if_pos rfl]
def RunAt (D : Addr) (G : Hp) (a : Addr) (js : List Jb) : Prop := ∃ dx gr lp, G a = some (.ins D dx (rf gr lp)) ∧ LRows G lp (js.map Jb.vals)
theorem RunAt.keeps {D : Addr} {G G' : Hp} {a : Addr} {js : List Jb} (h : RunAt D G a js) (s : Same G G') : RunAt D G' a js := by
  obtain ⟨dx, gr, lp, h1, h2⟩ := h
  exact ⟨dx, gr, lp, s _ _ h1, h2.keeps s⟩
structure RunC (K : PySem.W.Frag) (D : Addr) : Prop where
  cl : Cls K D
  ng : NoAttr K D "grain"
  np : NoAttr K D "placed"
/-- the lambda's code is told by this name -/
def qL : Str := ("Run.__init__" : Str) ++ ".<locals>." ++ "<lambda>"
structure FunC (K : PySem.W.Frag) (x qual : Str) (st : Stmt) (c : Addr) (f : Addr) (fd : FuncData) : Prop where
  ex : ∃ (oc : Value) (od : Option Addr) (dV kV doc pm : Value) (an : Option Addr) (ct : Value) (osl : Array (Option Value)),
    fd = PySem.W.fnOf x qual (defArgs st) (defBody st) (defScope st) dV kV doc pm an (.ref c) ct ∧ K.lookup f = some ⟨oc, od, .func fd, osl⟩ ∧ PySem.W.codeIn K (.ref c) qual = true
theorem FunC.ok {P : Program} {w : World} {K : PySem.W.Frag} {mg : Str → Option Value} {base : Heap} {x qual : Str} {st : Stmt} {f c : Addr} {fd : FuncData} {N ps : List Str} {k : Nat} {sp : Sp} (F : FunC K x qual st c f fd) (S : FnScope N ps (defScope st)) (len : ∀ vs H Q E, sp vs H Q E → vs.length = ps.length)
    (hbody : ∀ (A : Around) (outer : List Env) (s : Shared) (H : Hp) (vs : List V) (Q : VK) (E : XK), Room k (A.deeper (envOfC qual (defScope st) s.heap.objs.size f (.ref c))) → sp vs H Q E →
      ∃ t, PSs (cxOf CX0 P w K mg base N qual (defScope st) f (.ref c) A outer s H E).nox (defBody st) t ∧ t { nx := fun _ H' => Q .non H', rt := Q } (L2.start N vs) H) : FnOk P w K mg base CX0 (k + 1) f fd ps sp := by
  obtain ⟨oc, od, dV, kV, doc, pm, an, ct, osl, rfl, lk, hcd⟩ := F.ex
  refine fn_of lk hcd S len fun A outer s H vs Q E hr hsp => ?_
  obtain ⟨t, h, q⟩ := hbody A outer s H vs Q E hr hsp
  exact ⟨t, h.nox, q⟩
/-- what a run asks of its walks -/
structure RunIn (C : Addr) (G : Hp) (lt lw : Addr) (g : Int) (its : List It3) : Prop where
  ts : ∃ ts, G lt = some (.lst ts) ∧ All2 (fun v (x : It3) => ∃ a, v = V.ref a ∧ TaskAt C G a x.ks x.as) ts its
  ws : LWalks G lw (its.map (·.w))
  ok : ∀ x ∈ its, TaskOk x.ks x.as ∧ WalkOk x.ks x.as g x.w
  sum : (its.map fun x => (x.w.length : Int)).sum ≤ 400
  few : its.length ≤ 1000
  g1 : 1 ≤ g
  g2 : g ≤ 60
def spRInit (C D P : Addr) : Sp := fun vs H Q _ => ∃ (p dx lt lw : Addr) (g : Int) (its : List It3) (H1 : Hp), vs = [.ref p, .ref lt, .ref lw, .int g] ∧ H = L2.upd (L2.upd H1 dx (.own p)) p (.ins D dx []) ∧ H1 p = none ∧ H1 dx = none ∧ dx ≠ p ∧
  RunIn C H1 lt lw g its ∧ LamX.Tabs [(P, qL)] H1 ∧ ∀ H' js, LamX.ExtN H1 H' → LamX.Tabs [(P, qL)] H' → js.Perm (rowsV g 0 its) → RunAt D H' p js → Q .non H'
def spRJobs (D : Addr) : Sp := fun vs H Q _ => ∃ (a : Addr) (js : List Jb), vs = [.ref a] ∧ RunAt D H a js ∧ ∀ (l : Addr) us, H l = none → Rows H us (js.map Jb.vals) → Q (.ref l) (L2.upd H l (.lst us))
theorem len_one : ∀ {l : List Int} {x : Int}, x ∈ l → (∀ y ∈ l, 0 ≤ y) → x ≤ l.sum
  | y :: l, x, h, h0 => by
    have h1 := h0 y (List.mem_cons_self ..)
    have h2 := sum_nonneg (l := l) fun z hz => h0 z (List.mem_cons_of_mem _ hz)
    rw [List.sum_cons]
    rcases List.mem_cons.mp h with e | h
    · omega
    · have := len_one h fun z hz => h0 z (List.mem_cons_of_mem _ hz)
      omega
theorem RunIn.wlen {C : Addr} {G : Hp} {lt lw : Addr} {g : Int} {its : List It3} (h : RunIn C G lt lw g its) {x : It3} (hx : x ∈ its) : x.w.length ≤ 1000 := by
  have h1 : (x.w.length : Int) ≤ (its.map fun x => (x.w.length : Int)).sum := len_one (List.mem_map.mpr ⟨x, hx, rfl⟩) fun y hy => by
    obtain ⟨z, _, rfl⟩ := List.mem_map.mp hy
    omega
  have := h.sum
  omega
theorem rws_of {G : Hp} : ∀ {vs : List V} {js : List Jb}, Rows G vs (js.map Jb.vals) → ∃ rs : List Rw, rs.map Rw.jb = js ∧ vs = rs.map (fun x => V.ref x.t) ∧ ∀ x ∈ rs, G x.t = some (.tup x.vals)
  | _, [], .nil => ⟨[], rfl, rfl, fun x hx => by cases hx⟩
  | _, j :: js, .cons ⟨t, e, ht⟩ r => by
    obtain ⟨rs, e1, e2, e3⟩ := rws_of r
    subst e e1 e2
    refine ⟨⟨t, j.i, j.p, j.n, j.r, j.c, j.d⟩ :: rs, rfl, rfl, fun x hx => ?_⟩
    rcases List.mem_cons.mp hx with h | h
    · subst h
      exact ht
    · exact e3 x h
theorem rows_rws {G : Hp} : ∀ {rs : List Rw}, (∀ x ∈ rs, G x.t = some (.tup x.vals)) → Rows G (rs.map fun x => V.ref x.t) ((rs.map Rw.jb).map Jb.vals)
  | [], _ => .nil
  | x :: rs, h => .cons ⟨x.t, rfl, h x (List.mem_cons_self ..)⟩ (rows_rws fun y hy => h y (List.mem_cons_of_mem _ hy))
theorem tabs_up {H : Hp} {T : List (Addr × Str)} {p D : Addr} {dx : Addr} {fs : List (Str × V)} {o : HO} (t : LamX.Tabs T H) (h : H p = some (.ins D dx fs)) : LamX.Tabs T (L2.upd H p o) := fun x hx => by
  obtain ⟨ps, h1, h2, h3⟩ := t x hx
  refine ⟨ps, by rw [upd_ne (ne_of h1 h (by intro z; cases z))]; exact h1, h2, fun pos cv hc => ?_⟩
  obtain ⟨c, e1, e2⟩ := h3 pos cv hc
  exact ⟨c, e1, by rw [upd_ne (ne_of e2 h (by intro z; cases z))]; exact e2⟩
theorem rows_app {H0 H : Hp} {R t : Addr} {vs xs : List V} {rows : List (List V)} (h : Rows (newer H0 H) vs rows) (hv : H R = some (.lst vs)) (ht : H t = none) (ht0 : H0 t = none) :
    Rows (newer H0 (L2.upd (L2.upd H t (.tup xs)) R (.lst (vs ++ [.ref t])))) (vs ++ [.ref t]) (rows ++ [xs]) := by
  refine All2.snoc (h.mono fun v ys q => ?_) ⟨t, rfl, newer_at ht0 (by rw [upd_ne (ne_of_none hv ht).symm]; exact upd_same)⟩
  obtain ⟨b, eb, hb⟩ := q
  have hb3 := newer_sub _ _ _ _ hb
  exact ⟨b, eb, newer_at (newer_none hb) (by rw [upd_ne (ne_of hb3 hv (by intro z; cases z)), upd_ne (ne_of_none hb3 ht)]; exact hb3)⟩
section
variable {P : Program} {w : World} {K : PySem.W.Frag} {mg : Str → Option Value} {base : Heap}
theorem scRInit : FnScope ["self", "tasks", "walks", "grain", "rows", "index", "walk", "task", "place", "kind", "release", "cost", "due"] ["self", "tasks", "walks", "grain"] (defScope sRInit) := ⟨rfl, rfl, rfl, by decide +kernel, rfl, by decide +kernel, by decide +kernel⟩
theorem ok_rInit {f C D c PT fD : Addr} {fd fdD : FuncData} (F : FunC K "__init__" "Run.__init__" sRInit c f fd) (T : TaskC K C) (R : RunC K D) (g : Gs mg) (c1 : Cal P w K mg base "check_counts" 1 ["tasks", "walks", "grain"] spCheckCounts) (c2 : Cal P w K mg base "check_job" 4 ["task", "walk", "index", "place", "grain"] (spCheckJob C))
    (GD : FnOk P w K mg base CX0 2 fD fdD ["self", "kind"] (spDeadlineOf C)) (mD : Meth K C "deadline_of" fD) (bD : Binds K fdD ["self", "kind"] []) (TB : LamX.TabB base mg c PT) : FnOk P w K mg base CX0 5 f fd ["self", "tasks", "walks", "grain"] (spRInit C D PT) := by
  refine F.ok scRInit (fun vs H Q E h => ?_) (fun A outer s H vs Q E hr h => ?_)
  · obtain ⟨p, dx, lt, lw, gr, its, H1, rfl, _⟩ := h
    rfl
  · obtain ⟨p, dx, lt, lw, gr, its, H1, rfl, rfl, hp, hdx, hne, I, hT, k⟩ := h
    have hrD : Room 2 _ := hr.mono (by decide)
    refine ⟨_, pss_cons (ps_expr (pc c1 hr (pa_cons (pv 1) (pa_cons (pv 2) (pa_cons (pv 3) pa_nil)))))
      (pss_cons (ps_set (i := 4) scRInit.nd rfl (Or.inl rfl) (pe_lst pa_nil))
      (pss_cons (ps_for PassesOwn.never rfl (pi_enum rfl g.enum (pa_cons (pv 2) pa_nil)) (pgT K (pgs_cons (pg_name (i := 5) scRInit.nd rfl (Or.inl rfl)) (pgs_cons (pg_name (i := 6) scRInit.nd rfl (Or.inl rfl)) pgs_nil)))
        (pss_cons (ps_set (i := 7) scRInit.nd rfl (Or.inl rfl) (pe_ix (ixL K) (pv 1) (pv 5) (fun _ _ => rfl)))
        (pss_one (ps_for PassesOwn.never rfl (pi_enum rfl g.enum (pa_cons (pv 6) pa_nil)) (pgT K (pgs_cons (pg_name (i := 8) scRInit.nd rfl (Or.inl rfl)) (pgs_cons (pgT K (pgs_cons (pg_name (i := 9) scRInit.nd rfl (Or.inl rfl)) (pgs_cons (pg_name (i := 10) scRInit.nd rfl (Or.inl rfl)) (pgs_cons (pg_name (i := 11) scRInit.nd rfl (Or.inl rfl)) pgs_nil)))) pgs_nil)))
          (pss_cons (ps_expr (pc c2 hr (pa_cons (pv 7) (pa_cons (pv 6) (pa_cons (pv 5) (pa_cons (pv 8) (pa_cons (pv 3) pa_nil)))))))
          (pss_cons (ps_set (i := 12) scRInit.nd rfl (Or.inl rfl) (pe_op op_add (pv 10) (pe_op op_mul (pe_meth (pv 7) T.cl mD GD hrD bD .nil pass0 (pa_cons (pv 9) pa_nil)) (pv 3))))
          (pss_one (ps_expr (pe_bm PySem.F.plainAttrs_list PySem.F.slot_list_append PySem.F.type_list_append mt_append (pv 4) (pa_cons (pe_tup (pa_cons (pv 5) (pa_cons (pv 8) (pa_cons (pv 9) (pa_cons (pv 10) (pa_cons (pv 11) (pa_cons (pv 12) pa_nil))))))) pa_nil))))))))))
      (pss_cons (ps_fld (pv 0) (pv 3) rfl)
      (pss_one (ps_fld (pv 0) (pe_sortRows (T := [(PT, qL)]) (c := c) (P := PT) hr rfl g.sorted (pa_cons (pv 4) pa_nil) TB rfl (List.mem_singleton.mpr rfl) (fun q hq _ => congrArg (fun z => z.2) (List.mem_singleton.mp hq))) rfl))))), ?_⟩
    generalize hH0 : L2.upd (L2.upd H1 dx (.own p)) p (.ins D dx []) = H0
    have s0 : Same H1 H0 := by rw [← hH0]; exact Same.trans (same_upd hdx) (same_upd (by rw [upd_ne hne.symm]; exact hp))
    have hp0 : H0 p = some (.ins D dx []) := by rw [← hH0]; exact upd_same
    obtain ⟨ts, hts, hta⟩ := I.ts
    obtain ⟨us, hus, hur⟩ := id I.ws
    have htl : ts.length = its.length := hta.length
    have hul : us.length = its.length := by rw [hur.length, List.length_map]
    have hfew := I.few
    refine ⟨_, rfl, _, rfl, _, rfl, lt, lw, gr, ts, its.map (·.w), rfl, s0 _ _ hts, I.ws.keeps s0, (by rw [htl, List.length_map]), (by rw [List.map_map]; exact I.sum), (by rw [List.length_map]; exact hfew), I.g1, I.g2, fun Ha sa => ?_⟩
    have s1 : Same H1 Ha := Same.trans s0 sa
    refine ⟨(by show 0 ≤ sizeLine; decide), fun R' hR => ?_⟩
    refine ⟨_, rfl, lw, us, rfl, SqL.of (by rw [upd_ne (ne_of_none (s1 _ _ hus) hR)]; exact s1 _ _ hus), ?_⟩
    refine for_it walk_enum (fun i σ Hc => (∃ v5 v6 v7 v8 v9 v10 v11 v12 : Option V, σ = [some (.ref p), some (.ref lt), some (.ref lw), some (.int gr), some (.ref R'), v5, v6, v7, v8, v9, v10, v11, v12]) ∧ Same Ha Hc ∧ ∃ vs, Hc R' = some (.lst vs) ∧ Rows (newer Ha Hc) vs ((rowsV gr 0 (its.take i)).map Jb.vals))
      ⟨⟨none, none, none, none, none, none, none, none, rfl⟩, same_upd hR, [], upd_same, .nil⟩ (fun i σ Hc _ h => SqL.of (h.2.1 _ _ (s1 _ _ hus))) ?_ ?_
    · rintro i x σ Hc _ hi ⟨⟨v5, v6, v7, v8, v9, v10, v11, v12, rfl⟩, sc, vs, hvs, hrw⟩ ⟨T1, x1, y1, rfl, hT1, rfl, hx1, hy1⟩
      cases hx1
      have hii : i < its.length := by omega
      obtain ⟨it, hit⟩ : ∃ it, its[i]? = some it := ⟨_, List.getElem?_eq_getElem hii⟩
      have hitm : it ∈ its := List.mem_of_getElem? hit
      obtain ⟨w1, hw1, a1, rfl, hLR⟩ := hur.get hy1
      rw [List.getElem?_map, hit] at hw1
      cases hw1
      obtain ⟨us2, hus2, hr2⟩ := id hLR
      obtain ⟨tv, htv, a2, rfl, hT2⟩ := hta.get' hit
      obtain ⟨okT, okW⟩ := I.ok it hitm
      have hwl := I.wlen hitm
      have hu2 : us2.length = it.w.length := by rw [hr2.length, List.length_map]
      have sT : Same Ha (L2.upd Hc T1 (.tup [.int (i : Nat), .ref a1])) := same_up sc (Same.free sc hT1)
      have s2 : Same H1 (L2.upd Hc T1 (.tup [.int (i : Nat), .ref a1])) := Same.trans s1 sT
      refine ⟨T1, _, rfl, SqT.of upd_same, rfl, _, _, rfl, _, _, rfl, rfl, ?_⟩
      refine ⟨_, rfl, _, rfl, lt, ts, (i : Int), .ref a2, rfl, rfl, SqL.of (s2 _ _ hts), atI_nat htv, ?_⟩
      refine ⟨_, rfl, a1, us2, rfl, SqL.of (s2 _ _ hus2), ?_⟩
      refine for_it walk_enum (fun j σ Hd => (∃ v8 v9 v10 v11 v12 : Option V, σ = [some (.ref p), some (.ref lt), some (.ref lw), some (.int gr), some (.ref R'), some (.int (i : Nat)), some (.ref a1), some (.ref a2), v8, v9, v10, v11, v12]) ∧ Same Ha Hd ∧ ∃ vs, Hd R' = some (.lst vs) ∧ Rows (newer Ha Hd) vs ((rowsV gr 0 (its.take i) ++ rowsW it.ks gr i 0 (it.w.take j)).map Jb.vals))
        ⟨⟨_, _, _, _, _, rfl⟩, sT, vs, by rw [upd_ne (ne_of_none hvs hT1)]; exact hvs, by
          rw [List.take_zero]
          show Rows _ vs ((rowsV gr 0 (its.take i) ++ []).map Jb.vals)
          rw [List.append_nil]
          exact hrw.keeps (newer_same (same_upd hT1))⟩ (fun j σ Hd _ h => SqL.of (h.2.1 _ _ (s1 _ _ hus2))) ?_ ?_
      · rintro j x σ Hd _ hj ⟨⟨v8, v9, v10, v11, v12, rfl⟩, sd, vs2, hvs2, hrw2⟩ ⟨T2, x2, y2, rfl, hTn, rfl, hx2, hy2⟩
        cases hx2
        obtain ⟨js, hjs, t, rfl, ht⟩ := hr2.get hy2
        rw [List.getElem?_map] at hjs
        obtain ⟨jb, hjb, rfl⟩ := Option.map_eq_some_iff.mp hjs
        have hjw : j < it.w.length := by omega
        have sU : Same Ha (L2.upd Hd T2 (.tup [.int (j : Nat), .ref t])) := same_up sd (Same.free sd hTn)
        have s3 : Same H1 (L2.upd Hd T2 (.tup [.int (j : Nat), .ref t])) := Same.trans s1 sU
        obtain ⟨hjn, hj0, hjc1, hjc2⟩ := okW.job jb (List.mem_of_getElem? hjb)
        obtain ⟨k', hk', ek⟩ := List.mem_map.mp hjn
        refine ⟨T2, _, rfl, SqT.of upd_same, rfl, _, _, rfl, _, _, rfl, t, _, rfl, SqT.of (s3 _ _ ht), rfl, _, _, rfl, _, _, rfl, _, _, rfl, rfl, rfl, ?_⟩
        refine ⟨_, rfl, _, rfl, _, rfl, _, rfl, _, rfl, a2, a1, (i : Int), gr, j, it.w, it.ks, it.as, rfl, hT2.keeps s3, okT, hLR.keeps s3, okW, hjw, hwl, I.g1, I.g2, fun He se => ?_⟩
        have s4 : Same H1 He := Same.trans s3 se
        obtain ⟨dxa, nma, lka, laa, hat, _⟩ := hT2.keeps s4
        refine ⟨_, rfl, _, rfl, a2, dxa, _, rfl, hat, tk_noD _ _ _, _, rfl, a2, k', it.ks, it.as, (by rw [ek]; rfl), hT2.keeps s4, okT.nd, hk', ?_⟩
        have hg1 := I.g1
        have hg2 := I.g2
        have hd1 := (okT.rg k' hk').2.2.1
        have hd2 : k'.2.2 ≤ 99 := by
          have := (okT.rg k' hk').2.2.2
          split at this <;> omega
        refine ⟨_, rfl, _, _, rfl, rfl, .inl ⟨by omega, by omega⟩, _, _, rfl, rfl, ?_⟩
        have hv4 : He R' = some (.lst vs2) := se _ _ (by rw [upd_ne (ne_of_none hvs2 hTn)]; exact hvs2)
        have sE : Same Ha He := Same.trans sU se
        refine ⟨_, rfl, .inl ⟨rfl, _, SqL.of hv4⟩, _, rfl, _, rfl, _, rfl, _, rfl, _, rfl, _, rfl, (by show 6 ≤ sizeLine; decide), fun t6 ht6 => ⟨R', vs2, _, rfl, rfl, by rw [upd_ne (ne_of_none hv4 ht6)]; exact hv4, ?_, ?_⟩⟩
        · have e1 := hrw2.length
          have e2 := rowsV_len (g := gr) (its.take i) 0 fun x hx => I.wlen (List.mem_of_mem_take hx)
          rw [List.length_map, List.length_append, rowsW_len, List.length_take] at e1
          rw [List.length_take] at e2
          rw [sizeLine_eq]
          omega
        · refine ⟨⟨_, _, _, _, _, rfl⟩, same_up (same_up sE (Same.free sE ht6)) hR, _, upd_same, ?_⟩
          have e : it.w.take (j + 1) = it.w.take j ++ [jb] := take_snoc hjb
          have ej : 0 + (it.w.take j).length = j := by rw [List.length_take]; omega
          have ed : dlOf it.ks jb.1 = k'.2.2 := by rw [← ek]; exact dlOf_of okT.nd hk'
          rw [e, rowsW_snoc, ej, ← List.append_assoc, List.map_append]
          have hv : Rows (newer Ha He) vs2 ((rowsV gr 0 (its.take i) ++ rowsW it.ks gr i 0 (it.w.take j)).map Jb.vals) := hrw2.keeps (newer_same (Same.trans (same_upd hTn) se))
          have hx := rows_app (xs := Jb.vals ⟨(i : Int), (j : Int), jb.1, jb.2.1, jb.2.2, due it.ks gr jb⟩) hv hv4 ht6 (Same.free sE ht6)
          unfold due at hx ⊢
          rw [ed] at hx ⊢
          exact hx
      · rintro σ Hd ⟨⟨v8, v9, v10, v11, v12, rfl⟩, sd, vs2, hvs2, hrw2⟩
        refine ⟨⟨_, _, _, _, _, _, _, _, rfl⟩, sd, vs2, hvs2, ?_⟩
        rw [hu2, List.take_length] at hrw2
        rw [take_snoc hit, rowsV_snoc]
        have ei : 0 + (its.take i).length = i := by rw [List.length_take]; omega
        rw [ei]
        exact hrw2
    · rintro σ Hc ⟨⟨v5, v6, v7, v8, v9, v10, v11, v12, rfl⟩, sc, vs, hvs, hrw⟩
      rw [hul, List.take_length] at hrw
      have sO : Same H0 Hc := Same.trans sa sc
      refine ⟨_, rfl, _, rfl, p, D, dx, [], rfl, sO _ _ hp0, R.cl, R.ng, (by show 0 < 1000; decide), ?_⟩
      generalize hHe : L2.upd Hc p (.ins D dx (putF "grain" (.int gr) [])) = He
      have hpe : He p = some (.ins D dx (putF "grain" (.int gr) [])) := by rw [← hHe]; exact upd_same
      have s5 : Same H1 He := by rw [← hHe]; exact same_up (Same.trans s0 sO) hp
      have hv5 : He R' = some (.lst vs) := by
        rw [← hHe, upd_ne (ne_of hvs (sO _ _ hp0) (by intro z; cases z))]
        exact hvs
      have hrw5 : Rows (newer Ha He) vs ((rowsV gr 0 its).map Jb.vals) := by
        rw [← hHe]
        exact hrw.keeps (newer_upd (ne_none (sa _ _ hp0)))
      obtain ⟨rs, e1, e2, e3⟩ := rws_of hrw5
      have hT5 : LamX.Tabs [(PT, qL)] He := hT.ext s5
      subst e2
      refine ⟨_, rfl, R', rs, rfl, SqL.of hv5, fun x hx => newer_sub _ _ _ _ (e3 x hx), hT5, fun H2 rs' q eN T2 hq hperm => ?_⟩
      have hp2 : H2 p = some (.ins D dx (putF "grain" (.int gr) [])) := eN _ _ hpe fun ps z => by cases z
      have hp3 : L2.upd H2 q (.lst (rs'.map fun x => V.ref x.t)) p = some (.ins D dx (putF "grain" (.int gr) [])) := by
        rw [upd_ne (ne_of_none hp2 hq)]
        exact hp2
      refine ⟨_, rfl, p, D, dx, _, rfl, hp3, R.cl, R.np, ?_, ?_⟩
      · have := len_putF "grain" (.int gr) []
        simp only [List.length_nil] at this
        omega
      refine k _ (rs'.map Rw.jb) ?_ (tabs_up (T2.ext (same_upd hq)) hp3) (by rw [← e1]; exact hperm.map _) ?_
      · intro b o hb hn
        have hb2 : H2 b = some o := eN b o (s5 b o hb) hn
        rw [upd_ne (ne_of_none hb hp), upd_ne (ne_of_none hb2 hq)]
        exact hb2
      · refine ⟨dx, gr, q, upd_same, _, by rw [upd_ne (ne_of_none hp2 hq).symm]; exact upd_same, ?_⟩
        refine rows_rws fun x hx => ?_
        have hx2 : H2 x.t = some (.tup x.vals) := eN _ _ (newer_sub _ _ _ _ (e3 x (hperm.mem_iff.mp hx))) fun ps z => by cases z
        rw [upd_ne (ne_of hx2 hp2 (by intro z; cases z)), upd_ne (ne_of_none hx2 hq)]
        exact hx2
theorem scRJobs : FnScope ["self"] ["self"] (defScope sRJobs) := ⟨rfl, rfl, rfl, by decide +kernel, rfl, by decide +kernel, by decide +kernel⟩
theorem ok_rJobs {f D : Addr} {fd : FuncData} (F : FunA K "jobs" "Run.jobs" sRJobs f fd) (R : RunC K D) (g : Gs mg) : FnOk P w K mg base CX0 1 f fd ["self"] (spRJobs D) := by
  refine F.ok scRJobs (fun vs H Q E h => ?_) (fun cdv A outer s H vs Q E hr h => ?_)
  · obtain ⟨a, js, rfl, _⟩ := h
    rfl
  · obtain ⟨a, js, rfl, hT, q⟩ := h
    obtain ⟨dx, gr, lp, ha, us, hlp, hrows⟩ := id hT
    refine ⟨_, pss_one (ps_ret (pe_callTy (lstS K) (by rfl) g.list (by decide +kernel) (pa_cons (pe_fld (pv 0) rfl) pa_nil))), ?_⟩
    exact ⟨_, rfl, a, D, dx, _, _, rfl, ha, R.cl, R.np, rf_placed _ _, lp, us, rfl, .inl (SqL.of hlp), fun l hl => q l us hl hrows⟩
end
end WD
/-! demand.py: the tables -/
namespace WD
open PySem PySem.Spec PyProof.Rows L2
abbrev sKindDemands : Stmt := top 21
abbrev sTaskDemand : Stmt := top 22
abbrev sDemand : Stmt := top 23
/-- the table of a task's demands: one list for each kind -/
def dtab : List (Str × Int × Int) → List Addr → List (Key × V)
  | k :: ks, l :: ls => (.inr k.1, .ref l) :: dtab ks ls
  | _, _ => []
def dl (ks : List (Str × Int × Int)) (as : List (Str × Str × Int)) (n : Str) (m : Nat) : List V := (List.range m).map fun (t : Nat) => V.int (f ks as n (t : Int))
structure DemD (G : Hp) (d : Addr) (ks : List (Str × Int × Int)) (as : List (Str × Str × Int)) (T : Nat) : Prop where
  ex : ∃ ls, ls.length = ks.length ∧ G d = some (.dK (dtab ks ls)) ∧ ∀ (j : Nat) (k : Str × Int × Int) (l : Addr), ks[j]? = some k → ls[j]? = some l → G l = some (.lst (dl ks as k.1 (T + 1)))
theorem DemD.keeps {G G' : Hp} {d : Addr} {ks : List (Str × Int × Int)} {as : List (Str × Str × Int)} {T : Nat} (h : DemD G d ks as T) (s : Same G G') : DemD G' d ks as T := by
  obtain ⟨ls, h1, h2, h3⟩ := h.ex
  exact ⟨⟨ls, h1, s _ _ h2, fun j k l hk hl => s _ _ (h3 j k l hk hl)⟩⟩
theorem dtab_val : ∀ {ks : List (Str × Int × Int)} {ls : List Addr} {j : Nat} {k : Str × Int × Int} {l : Addr}, (ks.map (·.1)).Nodup → ks[j]? = some k → ls[j]? = some l → valV (dtab ks ls) (.inr k.1) = some (.ref l)
  | [], _, _, _, _, _, h, _ => by simp at h
  | _ :: _, [], _, _, _, _, _, h => by simp at h
  | k0 :: ks, l0 :: ls, 0, k, l, hn, hk, hl => by
    simp at hk hl
    subst hk hl
    exact valV_pos rfl
  | k0 :: ks, l0 :: ls, j + 1, k, l, hn, hk, hl => by
    have hn : (k0.1 :: ks.map (·.1)).Nodup := hn
    obtain ⟨h1, h2⟩ := List.nodup_cons.mp hn
    have hk' : ks[j]? = some k := by simpa using hk
    have hl' : ls[j]? = some l := by simpa using hl
    have hne : ¬ (Sum.inr k0.1 : Key) = Sum.inr k.1 := fun z => h1 (by
      rw [Sum.inr.inj z]
      exact List.mem_map.mpr ⟨k, List.mem_of_getElem? hk', rfl⟩)
    show valV ((Sum.inr k0.1, V.ref l0) :: dtab ks ls) (.inr k.1) = _
    rw [valV_neg hne]
    exact dtab_val h2 hk' hl'
theorem dtab_none : ∀ {ks : List (Str × Int × Int)} {ls : List Addr} {n : Str}, n ∉ ks.map (·.1) → valV (dtab ks ls) (.inr n) = none
  | [], _, _, _ => by unfold dtab; exact valV_nil
  | _ :: _, [], _, _ => by unfold dtab; exact valV_nil
  | k :: ks, l :: ls, n, h => by
    have h : n ∉ k.1 :: ks.map (·.1) := h
    have hne : ¬ (Sum.inr k.1 : Key) = Sum.inr n := fun z => h (by
      rw [Sum.inr.inj z]
      exact List.mem_cons_self ..)
    show valV ((Sum.inr k.1, V.ref l) :: dtab ks ls) (.inr n) = _
    rw [valV_neg hne]
    exact dtab_none fun z => h (List.mem_cons_of_mem _ z)
theorem dtab_snoc : ∀ {ks : List (Str × Int × Int)} {ls : List Addr} {k : Str × Int × Int} {l : Addr}, ls.length = ks.length → dtab (ks ++ [k]) (ls ++ [l]) = dtab ks ls ++ [(.inr k.1, .ref l)]
  | [], [], k, l, _ => rfl
  | _ :: _, [], _, _, h => by simp at h
  | [], _ :: _, _, _, h => by simp at h
  | k0 :: ks, l0 :: ls, k, l, h => by
    show _ :: dtab (ks ++ [k]) (ls ++ [l]) = _ :: (dtab ks ls ++ _)
    rw [dtab_snoc (by simpa using h)]
theorem dtab_len : ∀ {ks : List (Str × Int × Int)} {ls : List Addr}, (dtab ks ls).length ≤ ks.length
  | [], _ => by unfold dtab; simp
  | _ :: _, [] => by unfold dtab; simp
  | k :: ks, l :: ls => by
    have := dtab_len (ks := ks) (ls := ls)
    show (dtab ks ls).length + 1 ≤ ks.length + 1
    omega
/-- a comprehension of a dict without tests -/
theorem dcy {J : It} {n : Nat} {G : Hp → Prop} {Y : Nat → Hp → V → Hp → Prop} (w : Walk J n G Y) {g : TG} {tk tv : TE} {vs : List Nat} {σ : L2.St} {H1 : Hp} {D : Addr} {Qd : Hp → Prop} (Pv : Nat → Hp → Prop) (h0 : Pv 0 (L2.upd H1 D (.dK []))) (hG : ∀ i H, i ≤ n → Pv i H → G H)
    (hs : ∀ i x H H', i < n → Pv i H → Y i H x H' → g x (wipe σ vs) H' fun σ2 H2 => wipe σ2 vs = wipe σ vs ∧ tk σ2 H2 fun y H4 => tv σ2 H4 fun z H5 => ∃ kvs k, y = kV k ∧ H5 D = some (.dK kvs) ∧ kvs.length < sizeLine ∧ Pv (i + 1) (L2.upd H5 D (.dK (putK kvs k z)))) (hd : ∀ H, Pv n H → Qd H) :
    ∃ W : Nat → Nat → Hp → Prop, (∃ m, W 0 m (L2.upd H1 D (.dK []))) ∧ ∀ i m H, W i m H →
      (J.stop i H ∧ Qd H) ∨ (J.go i H ∧ ∃ Nx : Hp → Prop, (∀ H', Nx H' → ∃ m', m' < m ∧ W (i + 1) m' H') ∧ ∀ x H', J.yld i H x H' → g x (wipe σ vs) H' fun σ2 H2 => wipe σ2 vs = wipe σ vs ∧ tYes σ2 H2 fun b H3 =>
        if b = true then tk σ2 H3 fun y H4 => tv σ2 H4 fun z H5 => ∃ kvs k, y = kV k ∧ H5 D = some (.dK kvs) ∧ kvs.length < sizeLine ∧ Nx (L2.upd H5 D (.dK (putK kvs k z))) else Nx H3) := by
  refine ⟨fun i m H => m = n - i ∧ i ≤ n ∧ Pv i H, ⟨n, by simp, Nat.zero_le _, h0⟩, ?_⟩
  rintro i m H ⟨rfl, hi, p⟩
  have q := hG i H hi p
  by_cases hlt : i < n
  · refine .inr ⟨w.goes i H hlt q, Pv (i + 1), fun H' p' => ⟨n - (i + 1), by omega, rfl, hlt, p'⟩, fun x H' y => ?_⟩
    exact hs i x H H' hlt p (w.yields i H x H' hlt q y)
  · have e : i = n := by omega
    subst e
    exact .inl ⟨w.stops H q, hd H p⟩
theorem walk_range0 {n : Nat} : Walk (Itr 0 n) n (fun _ => True) (YFn fun i => .int (i : Nat)) := walk_range.mono (fun _ h => h) fun i H x H' _ _ y => ⟨y.1, by
  rw [y.2]
  show V.int (0 + (i : Int)) = _
  rw [Int.zero_add]⟩
theorem if_var {c : Bool} {σ : L2.St} {i : Nat} {a b x : V} {H : Hp} {Q : VK} (ha : σ[i]? = some (some a)) (hx : (if c = true then a else b) = x) (h : Q x H) : if c = true then (∃ v, σ[i]? = some (some v) ∧ Q v H) else Q b H := by
  subst hx
  cases c with
  | true => exact ⟨a, ha, h⟩
  | false => exact h
theorem rMax_of {K : PySem.W.Frag} {H : Hp} {a : Addr} {ns : List Int} {Q : VK} (hs : SqL K H a (ns.map V.int)) (hp : ∀ x ∈ ns, 0 ≤ x) (h : Q (.int (mx0 ns)) H) : rMaxDflt K [.ref a] [.int 0] H Q :=
  ⟨a, ns, .int 0, rfl, rfl, hs, fun e => by rw [e] at h; exact h, fun _ m hm hle => by rw [mx0_eq hp hm hle]; exact h⟩
theorem LRows.up {G : Hp} {l a : Addr} {xss : List (List V)} {o u : HO} (h : LRows G l xss) (ha : G a = some u) (h1 : ∀ xs, u ≠ .tup xs) (h2 : ∀ xs, u ≠ .lst xs) : LRows (L2.upd G a o) l xss := by
  obtain ⟨vs, hv, hr⟩ := h
  exact ⟨vs, by rw [upd_ne (ne_of hv ha (fun z => h2 _ z.symm))]; exact hv, Rows.up hr ha h1⟩
theorem dl_succ {ks : List (Str × Int × Int)} {as : List (Str × Str × Int)} {n : Str} {m : Nat} : dl ks as n (m + 1) = dl ks as n m ++ [.int (f ks as n (m : Int))] := by
  unfold dl
  rw [List.range_succ, List.map_append]
  rfl
theorem dl_get {ks : List (Str × Int × Int)} {as : List (Str × Str × Int)} {n : Str} {m j : Nat} (h : j < m) : (dl ks as n m)[j]? = some (.int (f ks as n (j : Int))) := by
  unfold dl
  rw [List.getElem?_map, List.getElem?_range h]
  rfl
theorem dl_len {ks : List (Str × Int × Int)} {as : List (Str × Str × Int)} {n : Str} {m : Nat} : (dl ks as n m).length = m := by
  unfold dl
  rw [List.length_map, List.length_range]
/-- the table while it is filled -/
structure TabSt (ks : List (Str × Int × Int)) (as : List (Str × Str × Int)) (ls : List Addr) (tD : Addr) (Hb Hc : Hp) (t i : Nat) : Prop where
  same : Same Hb Hc
  dic : Hc tD = some (.dK (dtab ks ls))
  row : ∀ (j : Nat) (k : Str × Int × Int) (l : Addr), ks[j]? = some k → ls[j]? = some l → Hc l = some (.lst (dl ks as k.1 (if j < i then t + 1 else t)))
theorem TabSt.next {ks : List (Str × Int × Int)} {as : List (Str × Str × Int)} {ls : List Addr} {tD : Addr} {Hb Hc : Hp} {t : Nat} (h : TabSt ks as ls tD Hb Hc t ks.length) : TabSt ks as ls tD Hb Hc (t + 1) 0 := by
  refine ⟨h.same, h.dic, fun j k l hk hl => ?_⟩
  have := h.row j k l hk hl
  rw [if_pos (List.getElem?_eq_some_iff.mp hk).1] at this
  rw [if_neg (Nat.not_lt_zero _)]
  exact this
def spKindDemands (C : Addr) : Sp := fun vs H Q _ => ∃ (a : Addr) (T : Nat) (ks : List (Str × Int × Int)) (as : List (Str × Str × Int)), vs = [.ref a, .int (T : Int)] ∧ TaskAt C H a ks as ∧ TaskOk ks as ∧ T ≤ 1000 ∧ ∀ H' d, Same H H' → DemD (newer H H') d ks as T → Q (.ref d) H'
theorem roomU {k : Nat} {A : Around} (h : Room k A) : A.units + 1 < cLine := by
  have := h.un
  omega
section
variable {P : Program} {w : World} {K : PySem.W.Frag} {mg : Str → Option Value} {base : Heap}
theorem scKindDemands : FnScope ["task", "ticks", "kinds", "kind", "cost", "deadline", "followers", "table", "at", "ahead", "own", "second", "gap"] ["task", "ticks"] (defScope sKindDemands) := ⟨rfl, rfl, rfl, by decide +kernel, rfl, by decide +kernel, by decide +kernel⟩
theorem ok_kindDemands {f C fR pK gK : Addr} {fd fdR fdK : FuncData} (F : Fun K "kind_demands" "kind_demands" sKindDemands f fd) (T : TaskC K C) (g : Gs mg)
    (G : FnOk P w K mg base CX0 2 fR fdR ["self", "kind"] (spFollowers C)) (m : Meth K C "followers" fR) (b : Binds K fdR ["self", "kind"] [])
    (GK : FnOk P w K mg base CX0 1 gK fdK ["self"] (spTKinds C)) (mK : PropOf K C "kinds" pK gK) (bK : Binds K fdK ["self"] []) : FnOk P w K mg base CX0 4 f fd ["task", "ticks"] (spKindDemands C) := by
  refine F.ok scKindDemands (fun vs H Q E h => ?_) (fun cdv A outer s H vs Q E hr h => ?_)
  · obtain ⟨a, T, ks, as, rfl, _⟩ := h
    rfl
  · obtain ⟨a, TT, ks, as, rfl, hT, ok, hTT, q⟩ := h
    have hr2 : Room 2 _ := hr.mono (by decide)
    have hu := roomU hr
    refine ⟨_, pss_cons (ps_set (i := 2) scKindDemands.nd rfl (Or.inl rfl) (pe_prop (pv 0) T.cl mK GK hr2 bK .nil pass0 rfl))
      (pss_cons (ps_setDc (i := 6) rfl scKindDemands.nd rfl rfl (sw_trueD rfl rfl rfl (by decide +kernel)) (own := [("kind", 3), ("cost", 4), ("deadline", 5)]) (piL K (pv 2)) (blkOk_by (N := ["task", "ticks", "kinds", "kind", "cost", "deadline", "followers", "table", "at", "ahead", "own", "second", "gap"]) (sc := defScope sKindDemands) (by decide +kernel))
        (fun _ _ _ _ _ => pgT K (n := 3) (pgs_cons (pg_name (i := 3) scKindDemands.nd rfl (Or.inl rfl)) (pgs_cons (pg_name (i := 4) scKindDemands.nd rfl (Or.inl rfl)) (pgs_cons (pg_name (i := 5) scKindDemands.nd rfl (Or.inl rfl)) pgs_nil)))) (fun _ _ _ _ _ => pts_nil)
        (fun _ _ _ _ _ => pv 3) (fun _ _ _ _ _ => pe_meth (pv 0) T.cl m G hr2 b .nil pass0 (pa_cons (pv 3) pa_nil)))
      (pss_cons (ps_set (i := 7) scKindDemands.nd rfl (Or.inr rfl) (pe_dc rfl scKindDemands.nd (own := [("kind", 3), ("cost", 4), ("deadline", 5)]) (piL K (pv 2)) (blkOk_by (N := ["task", "ticks", "kinds", "kind", "cost", "deadline", "followers", "table", "at", "ahead", "own", "second", "gap"]) (sc := defScope sKindDemands) (by decide +kernel))
        (fun _ _ _ _ _ => pgT K (n := 3) (pgs_cons (pg_name (i := 3) scKindDemands.nd rfl (Or.inl rfl)) (pgs_cons (pg_name (i := 4) scKindDemands.nd rfl (Or.inl rfl)) (pgs_cons (pg_name (i := 5) scKindDemands.nd rfl (Or.inl rfl)) pgs_nil)))) (fun _ _ _ _ _ => pts_nil)
        (fun _ _ _ _ _ => pv 3) (fun _ _ _ _ _ => pe_lst pa_nil)))
      (pss_cons (ps_for PassesOwn.never rfl (pi_range1 rfl g.range (pa_cons (pe_op op_add (pv 1) pe_int) pa_nil)) (pg_name (i := 8) scKindDemands.nd rfl (Or.inr rfl))
        (pss_one (ps_for PassesOwn.never rfl (piL K (pv 2)) (pgT K (pgs_cons (pg_name (i := 3) scKindDemands.nd rfl (Or.inl rfl)) (pgs_cons (pg_name (i := 4) scKindDemands.nd rfl (Or.inl rfl)) (pgs_cons (pg_name (i := 5) scKindDemands.nd rfl (Or.inl rfl)) pgs_nil))))
          (pss_cons (ps_setLc (i := 9) rfl scKindDemands.nd rfl rfl (sw_true rfl rfl rfl (by decide +kernel)) (own := [("second", 11), ("gap", 12)]) (piL K (pe_dget hu (pv 6) (pv 3) (fun _ _ => rfl))) (blkOk_by (N := ["task", "ticks", "kinds", "kind", "cost", "deadline", "followers", "table", "at", "ahead", "own", "second", "gap"]) (sc := defScope sKindDemands) (by decide +kernel))
            (fun _ _ _ _ _ => pgT K (n := 2) (pgs_cons (pg_name (i := 11) scKindDemands.nd rfl (Or.inl rfl)) (pgs_cons (pg_name (i := 12) scKindDemands.nd rfl (Or.inl rfl)) pgs_nil)))
            (fun _ _ _ _ _ => pts_one (pt_cmpR op_le (pv 12) (pv 8) (nomark _)))
            (fun _ _ _ _ _ => pe_ix (ixL K) (pe_dget hu (pv 7) (pv 11) (fun _ _ => rfl)) (pe_op op_sub (pv 8) (pv 12)) (fun _ _ => rfl)))
          (pss_cons (ps_set (i := 10) scKindDemands.nd rfl (Or.inl rfl) (pe_ifExp (pt_cmpR op_le (pv 5) (pv 8) (nomark _)) (pv 4) pe_int))
          (pss_one (ps_expr (pe_bm PySem.F.plainAttrs_list PySem.F.slot_list_append PySem.F.type_list_append mt_append (pe_dget hu (pv 7) (pv 3) (fun _ _ => rfl))
            (pa_cons (pe_op op_add (pv 10) (pe_callBK (cr_maxDflt rfl hr) rfl g.max (by decide +kernel) (pa_cons (pv 9) pa_nil) (pk_cons pe_int pk_nil))) pa_nil)))))))))
      (pss_one (ps_ret (pv 7)))))), ?_⟩
    obtain ⟨dx, nm, lkr, la, ha, _⟩ := id hT
    refine ⟨_, rfl, a, dx, _, rfl, ha, a, ks, as, rfl, hT, fun lk us hlk hur => ?_⟩
    generalize hHa : L2.upd H lk (.lst us) = Ha
    have sa : Same H Ha := by rw [← hHa]; exact same_upd hlk
    have hla : Ha lk = some (.lst us) := by rw [← hHa]; exact upd_same
    have hura : Rows Ha us (ks.map kv) := Rows.keeps hur sa
    have hul : us.length = ks.length := by rw [hur.length, List.length_map]
    have h4 := ok.k4
    -- the followers
    refine ⟨_, rfl, lk, rfl, ⟨_, SqL.of hla⟩, fun fD hfD => ?_⟩
    refine dcy (walk_list (K := K) (a := lk) (xs := us)) (fun i Hc => Same Ha Hc ∧ ∃ ls, ls.length = i ∧ Hc fD = some (.dK (dtab (ks.take i) ls)) ∧ ∀ (j : Nat) (k : Str × Int × Int) (l : Addr), ks[j]? = some k → ls[j]? = some l → LRows Hc l ((foll as k.1).map fv))
      ⟨same_upd hfD, [], rfl, upd_same, fun j k l _ h => by simp at h⟩ (fun i Hc _ h => SqL.of (h.1 _ _ hla)) ?_ ?_
    · rintro i x _ Hc hi ⟨sc, ls, hll, hd, hrw⟩ ⟨rfl, hx⟩
      obtain ⟨xs, hxs, t, rfl, ht⟩ := hura.get hx
      rw [List.getElem?_map] at hxs
      obtain ⟨k, hk, rfl⟩ := Option.map_eq_some_iff.mp hxs
      have s1 : Same H Hc := Same.trans sa sc
      refine ⟨t, _, rfl, SqT.of (sc _ _ ht), rfl, _, _, rfl, _, _, rfl, _, _, rfl, rfl, rfl, ?_⟩
      refine ⟨_, rfl, _, rfl, a, dx, _, rfl, s1 _ _ ha, tk_no _ _ _, _, rfl, a, k.1, ks, as, rfl, hT.keeps s1, ok.nd, List.mem_map.mpr ⟨k, List.mem_of_getElem? hk, rfl⟩, ok.a12, fun H2 l s2 hl => ?_⟩
      have hlen : (ks.take i).length = i := by rw [List.length_take]; omega
      have hd2 : H2 fD = some (.dK (dtab (ks.take i) ls)) := s2 _ _ hd
      refine ⟨_, .inr k.1, rfl, hd2, ?_, same_up (Same.trans sc s2) hfD, ls ++ [l], ?_, ?_, ?_⟩
      · have := dtab_len (ks := ks.take i) (ls := ls)
        rw [sizeLine_eq]
        omega
      · rw [List.length_append, hll]
        rfl
      · rw [upd_same, putK_new, take_snoc hk, dtab_snoc (by rw [hll, hlen])]
        refine dtab_none ?_
        rw [List.map_take]
        exact nd_take ok.nd (by rw [List.getElem?_map, hk]; rfl)
      · intro j k' l' hk' hl'
        refine LRows.up ?_ hd2 (fun xs z => by cases z) (fun xs z => by cases z)
        by_cases hji : j < i
        · rw [List.getElem?_append_left (by omega)] at hl'
          exact (hrw j k' l' hk' hl').keeps s2
        · have hj : j = ls.length := by
            have := (List.getElem?_eq_some_iff.mp hl').1
            rw [List.length_append] at this
            simp only [List.length_cons, List.length_nil] at this
            omega
          subst hj
          rw [List.getElem?_append_right (Nat.le_refl _), Nat.sub_self] at hl'
          simp only [List.getElem?_cons_zero, Option.some.injEq] at hl'
          subst hl'
          rw [hll] at hk'
          rw [hk] at hk'
          cases hk'
          exact hl.keeps (newer_sub _ _)
    rintro Hb ⟨sb, lf, hlf, hfd, hfr⟩
    rw [hul, List.take_length] at hfd
    rw [hul] at hlf
    have hlb : Hb lk = some (.lst us) := sb _ _ hla
    have hurb : Rows Hb us (ks.map kv) := Rows.keeps hura sb
    -- the table
    refine ⟨_, rfl, lk, rfl, ⟨_, SqL.of hlb⟩, fun tD htD => ?_⟩
    refine dcy (walk_list (K := K) (a := lk) (xs := us)) (fun i Hc => Same Hb Hc ∧ ∃ ls : List Addr, ls.length = i ∧ ls.Nodup ∧ Hc tD = some (.dK (dtab (ks.take i) ls)) ∧ ∀ l ∈ ls, Hb l = none ∧ Hc l = some (.lst []))
      ⟨same_upd htD, [], rfl, List.nodup_nil, upd_same, fun l h => by cases h⟩ (fun i Hc _ h => SqL.of (h.1 _ _ hlb)) ?_ ?_
    · rintro i x _ Hc hi ⟨sc, ls, hll, hln, hd, hrw⟩ ⟨rfl, hx⟩
      obtain ⟨xs, hxs, t, rfl, ht⟩ := hurb.get hx
      rw [List.getElem?_map] at hxs
      obtain ⟨k, hk, rfl⟩ := Option.map_eq_some_iff.mp hxs
      refine ⟨t, _, rfl, SqT.of (sc _ _ ht), rfl, _, _, rfl, _, _, rfl, _, _, rfl, rfl, rfl, ?_⟩
      refine ⟨_, rfl, (by show 0 ≤ sizeLine; decide), fun l hl => ?_⟩
      have hlen : (ks.take i).length = i := by rw [List.length_take]; omega
      have hd2 : L2.upd Hc l (.lst []) tD = some (.dK (dtab (ks.take i) ls)) := by
        rw [upd_ne (ne_of_none hd hl)]
        exact hd
      have hlb' : Hb l = none := Same.free sc hl
      refine ⟨_, .inr k.1, rfl, hd2, ?_, same_up (same_up sc hlb') htD, ls ++ [l], ?_, ?_, ?_, ?_⟩
      · have := dtab_len (ks := ks.take i) (ls := ls)
        rw [sizeLine_eq]
        omega
      · rw [List.length_append, hll]
        rfl
      · refine List.nodup_append.mpr ⟨hln, by simp, fun y hy z hz => ?_⟩
        simp only [List.mem_singleton] at hz
        subst hz
        exact ne_of_none (hrw y hy).2 hl
      · rw [upd_same, putK_new, take_snoc hk, dtab_snoc (by rw [hll, hlen])]
        refine dtab_none ?_
        rw [List.map_take]
        exact nd_take ok.nd (by rw [List.getElem?_map, hk]; rfl)
      · intro l' hl'
        rcases List.mem_append.mp hl' with h | h
        · obtain ⟨h1, h2⟩ := hrw l' h
          refine ⟨h1, ?_⟩
          rw [upd_ne (ne_of h2 hd (by intro z; cases z)), upd_ne (ne_of_none h2 hl)]
          exact h2
        · simp only [List.mem_singleton] at h
          subst h
          refine ⟨hlb', ?_⟩
          rw [upd_ne (ne_of_none hd hl).symm]
          exact upd_same
    rintro Hc0 ⟨sc0, ls, hll, hln, hd0, hrw0⟩
    rw [hul, List.take_length] at hd0
    rw [hul] at hll
    have hlb' : ∀ l ∈ ls, Hb l = none := fun l hl => (hrw0 l hl).1
    -- the ticks
    refine ⟨_, rfl, _, _, rfl, rfl, _, rfl, by omega, by omega, ?_⟩
    have en : ((TT : Int) + 1).toNat = TT + 1 := by omega
    rw [en]
    refine for_it walk_range0 (fun t σ Hc => (∃ v3 v4 v5 v8 v9 v10 v11 v12 : Option V, σ = [some (.ref a), some (.int (TT : Int)), some (.ref lk), v3, v4, v5, some (.ref fD), some (.ref tD), v8, v9, v10, v11, v12]) ∧ TabSt ks as ls tD Hb Hc t 0)
      ⟨⟨_, _, _, _, _, _, _, _, rfl⟩, ⟨sc0, hd0, fun j k l hk hl => (hrw0 l (List.mem_of_getElem? hl)).2⟩⟩ (fun _ _ _ _ _ => True.intro) ?_ ?_
    · rintro t x σ _ Hc htT ⟨⟨v3, v4, v5, v8, v9, v10, v11, v12, rfl⟩, hS⟩ ⟨rfl, rfl⟩
      refine ⟨_, rfl, lk, rfl, ⟨_, SqL.of (hS.same _ _ hlb)⟩, ?_⟩
      refine for_it (walk_list (K := K) (a := lk) (xs := us)) (fun i σ Hc => (∃ v3 v4 v5 v9 v10 v11 v12 : Option V, σ = [some (.ref a), some (.int (TT : Int)), some (.ref lk), v3, v4, v5, some (.ref fD), some (.ref tD), some (.int (t : Int)), v9, v10, v11, v12]) ∧ TabSt ks as ls tD Hb Hc t i)
        ⟨⟨_, _, _, _, _, _, _, rfl⟩, hS⟩ (fun i σ Hc _ h => SqL.of (h.2.same _ _ hlb)) ?_ ?_
      · rintro i x σ _ Hc hi ⟨⟨v3, v4, v5, v9, v10, v11, v12, rfl⟩, hS⟩ ⟨rfl, hx⟩
        obtain ⟨xs, hxs, tt, rfl, htt⟩ := hurb.get hx
        rw [List.getElem?_map] at hxs
        obtain ⟨k, hk, rfl⟩ := Option.map_eq_some_iff.mp hxs
        have hkm : k ∈ ks := List.mem_of_getElem? hk
        have hik : i < ks.length := by omega
        refine ⟨tt, _, rfl, SqT.of (hS.same _ _ htt), rfl, _, _, rfl, _, _, rfl, _, _, rfl, rfl, ?_⟩
        obtain ⟨fl, hfl⟩ : ∃ fl, lf[i]? = some fl := ⟨_, List.getElem?_eq_getElem (by omega)⟩
        obtain ⟨fus, hfus, hfrw⟩ := (hfr i k fl hk hfl).keeps hS.same
        have hfl12 : fus.length ≤ 12 := by
          have e1 := hfrw.length
          have e2 : (foll as k.1).length ≤ as.length := List.length_filter_le _ _
          have := ok.a12
          rw [List.length_map] at e1
          omega
        have hful : fus.length = (foll as k.1).length := by rw [hfrw.length, List.length_map]
        refine ⟨_, rfl, _, rfl, fD, .ref fl, rfl, .inl ⟨_, .inr k.1, .inl (hS.same _ _ hfd), rfl, (dtab_val ok.nd hk hfl).symm⟩, fl, rfl, ⟨_, SqL.of hfus⟩, fun D hD => ?_⟩
        refine lc_it (walk_list (K := K) (a := fl) (xs := fus)) (fun i Hd => Same Hc Hd ∧ Hd D = some (.lst (((((foll as k.1).take i).filter fun a => decide (a.2.2 ≤ (t : Int))).map fun a => WD.f ks as a.2.1 ((t : Int) - a.2.2)).map V.int)))
          ⟨same_upd hD, upd_same⟩ (fun i Hd _ h => SqL.of (h.1 _ _ hfus)) ?_ ?_
        · rintro e x _ Hd he ⟨sd, hdl⟩ ⟨rfl, hx⟩
          obtain ⟨xs, hxs, tf, rfl, htf⟩ := hfrw.get hx
          rw [List.getElem?_map] at hxs
          obtain ⟨aa, haa, rfl⟩ := Option.map_eq_some_iff.mp hxs
          have ham : aa ∈ as := (List.mem_filter.mp (List.mem_of_getElem? haa)).1
          have hga := ok.ag _ ham
          refine ⟨tf, _, rfl, SqT.of (sd _ _ htf), rfl, _, _, rfl, _, _, rfl, rfl, rfl, ?_⟩
          refine ⟨_, rfl, _, rfl, _, _, rfl, rfl, decide (aa.2.2 ≤ (t : Int)), rfl, ?_⟩
          by_cases hgt : aa.2.2 ≤ (t : Int)
          · refine ifT (decide_eq_true hgt) ?_
            obtain ⟨k2, hk2, ek2⟩ := List.mem_map.mp (ok.fs _ ham).2
            obtain ⟨j2, hj2, ej2⟩ := List.mem_iff_getElem.mp hk2
            have hj2' : ks[j2]? = some k2 := by rw [List.getElem?_eq_getElem hj2, ej2]
            obtain ⟨l2, hl2⟩ : ∃ l2, ls[j2]? = some l2 := ⟨_, List.getElem?_eq_getElem (by omega)⟩
            have hrow := sd _ _ (hS.row j2 k2 l2 hj2' hl2)
            have hgn : ((t : Int) - aa.2.2) = ((t - aa.2.2.toNat : Nat) : Int) := by omega
            refine ⟨_, rfl, _, rfl, tD, .ref l2, rfl, .inl ⟨_, .inr k2.1, .inl (sd _ _ hS.dic), congrArg V.str ek2.symm, (dtab_val ok.nd hj2' hl2).symm⟩, ?_⟩
            refine ⟨_, rfl, _, rfl, _, _, rfl, rfl, l2, _, _, _, rfl, congrArg V.int hgn, SqL.of hrow, atI_nat (dl_get ?_), _, hdl, ?_, same_up sd hD, ?_⟩
            · split <;> omega
            · have e1 := List.length_filter_le (fun a : Str × Str × Int => decide (a.2.2 ≤ (t : Int))) ((foll as k.1).take e)
              rw [List.length_map, List.length_map, sizeLine_eq]
              rw [List.length_take] at e1
              omega
            · rw [upd_same, take_snoc haa, List.filter_append, List.filter_cons_of_pos (by simpa using hgt), List.map_append, List.map_append, ek2, ← hgn]
              rfl
          · refine ifF (decide_eq_false hgt) ?_
            refine ⟨sd, ?_⟩
            rw [take_snoc haa, List.filter_append, List.filter_cons_of_neg (by simpa using hgt), List.filter_nil, List.append_nil]
            exact hdl
        rintro Hd ⟨sd, hdl⟩
        rw [hful, List.take_length] at hdl
        obtain ⟨l, hl⟩ : ∃ l, ls[i]? = some l := ⟨_, List.getElem?_eq_getElem (by omega)⟩
        have hli : Hd l = some (.lst (dl ks as k.1 t)) := by
          have := sd _ _ (hS.row i k l hk hl)
          rw [if_neg (Nat.lt_irrefl _)] at this
          exact this
        refine ⟨_, rfl, _, rfl, _, _, rfl, rfl, decide (k.2.2 ≤ (t : Int)), rfl, if_var (a := .int k.2.1) (x := .int (own ks k.1 (t : Int))) rfl ?_ ?_⟩
        · unfold own
          rw [dlOf_of ok.nd hkm, costOf_of ok.nd hkm]
          by_cases hd : k.2.2 ≤ (t : Int)
          · rw [if_pos (decide_eq_true hd), if_pos hd]
          · rw [if_neg (by rw [decide_eq_false hd]; exact Bool.false_ne_true), if_neg hd]
        have hout : ((foll as k.1).filter fun a => decide (a.2.2 ≤ (t : Int))) = outs as k.1 (t : Int) := by
          unfold foll outs
          rw [List.filter_filter]
          congr 1
          funext a
          exact Bool.and_comm _ _
        rw [hout] at hdl
        have hval : own ks k.1 (t : Int) + mx0 ((outs as k.1 (t : Int)).map fun a => WD.f ks as a.2.1 ((t : Int) - a.2.2)) = WD.f ks as k.1 (t : Int) := (f_eq ok.sane.gap k.1 (Int.natCast_nonneg t)).symm
        have hsz : (dl ks as k.1 t).length < sizeLine := by
          rw [dl_len, sizeLine_eq]
          omega
        have hinv : ∀ m : Int, m = mx0 ((outs as k.1 (t : Int)).map fun a => WD.f ks as a.2.1 ((t : Int) - a.2.2)) → TabSt ks as ls tD Hb (L2.upd Hd l (.lst (dl ks as k.1 t ++ [.int (own ks k.1 (t : Int) + m)]))) t (i + 1) := fun m em => by
          refine ⟨same_up (Same.trans hS.same sd) (hlb' l (List.mem_of_getElem? hl)), ?_, fun j k' l' hk' hl' => ?_⟩
          · rw [upd_ne (ne_of (sd _ _ hS.dic) hli (by intro z; cases z))]
            exact sd _ _ hS.dic
          · by_cases hji : j = i
            · subst hji
              rw [hl] at hl'
              cases hl'
              rw [hk] at hk'
              cases hk'
              rw [upd_same, if_pos (by omega), dl_succ, em, hval]
            · have hne : l' ≠ l := fun z => hji (L2.nd_ix hln (by rw [hl', z]) hl)
              have := sd _ _ (hS.row j k' l' hk' hl')
              rw [upd_ne hne, this]
              by_cases h1 : j < i
              · rw [if_pos h1, if_pos (by omega)]
              · rw [if_neg h1, if_neg (by omega)]
        refine ⟨_, rfl, _, rfl, tD, .ref l, rfl, .inl ⟨_, .inr k.1, .inl (sd _ _ hS.dic), rfl, (dtab_val ok.nd hk hl).symm⟩, .inl ⟨rfl, _, SqL.of hli⟩, _, rfl, _, rfl, D, _, .int 0, rfl, rfl, SqL.of hdl, fun e => ?_, fun _ m hm hle => ?_⟩
        · exact ⟨_, _, rfl, rfl, l, _, _, rfl, rfl, hli, hsz, ⟨_, _, _, _, _, _, _, rfl⟩, hinv 0 (by rw [e]; rfl)⟩
        · exact ⟨_, _, rfl, rfl, l, _, _, rfl, rfl, hli, hsz, ⟨_, _, _, _, _, _, _, rfl⟩, hinv m (mx0_eq (fun x hx => by
            obtain ⟨aa, haa, rfl⟩ := List.mem_map.mp hx
            exact f_nonneg ok.sane.pos _ _) hm hle)⟩
      · rintro σ Hc ⟨⟨v3, v4, v5, v9, v10, v11, v12, rfl⟩, hS⟩
        rw [hul] at hS
        exact ⟨⟨_, _, _, _, _, _, _, _, rfl⟩, hS.next⟩
    · rintro σ Hc ⟨⟨v3, v4, v5, v8, v9, v10, v11, v12, rfl⟩, hS⟩
      have sHb : Same H Hb := Same.trans sa sb
      refine ⟨_, rfl, q Hc tD (Same.trans sHb hS.same) ⟨⟨ls, hll, newer_at (Same.free sHb htD) hS.dic, fun j k l hk hl => ?_⟩⟩⟩
      have hr := hS.row j k l hk hl
      rw [if_neg (Nat.not_lt_zero _)] at hr
      exact newer_at (Same.free sHb (hlb' l (List.mem_of_getElem? hl))) hr
end
end WD
/-! demand.py: the sums -/
namespace WD
open PySem PySem.Spec PyProof.Rows L2
theorem dtab_vals : ∀ {ks : List (Str × Int × Int)} {ls : List Addr}, ls.length = ks.length → (dtab ks ls).map (·.2) = ls.map V.ref
  | [], [], _ => rfl
  | _ :: _, [], h => by simp at h
  | [], _ :: _, h => by simp at h
  | k :: ks, l :: ls, h => by
    show V.ref l :: (dtab ks ls).map (·.2) = _
    rw [dtab_vals (by simpa using h)]
    rfl
abbrev Tk : Type := List (Str × Int × Int) × List (Str × Str × Int)
/-- a list of tasks -/
def LTasks (C : Addr) (G : Hp) (l : Addr) (tks : List Tk) : Prop := ∃ ts, G l = some (.lst ts) ∧ All2 (fun v (x : Tk) => ∃ a, v = V.ref a ∧ TaskAt C G a x.1 x.2) ts tks
theorem LTasks.keeps {C : Addr} {G G' : Hp} {l : Addr} {tks : List Tk} (h : LTasks C G l tks) (s : Same G G') : LTasks C G' l tks := by
  obtain ⟨vs, h1, h2⟩ := h
  exact ⟨vs, s _ _ h1, h2.mono fun v w ⟨a, e, q⟩ => ⟨a, e, q.keeps s⟩⟩
def dml (tks : List Tk) (T : Nat) : List V := (List.range (T + 1)).map fun (t : Nat) => V.int ((tks.map fun x => td x.1 x.2 (t : Int)).sum)
theorem tl_get {ks : List (Str × Int × Int)} {as : List (Str × Str × Int)} {T t : Nat} (h : t < T + 1) : ((List.range (T + 1)).map fun (t : Nat) => V.int (td ks as (t : Int)))[t]? = some (.int (td ks as (t : Int))) := by
  rw [List.getElem?_map, List.getElem?_range h]
  rfl
section
variable {P : Program} {w : World} {K : PySem.W.Frag} {mg : Str → Option Value} {base : Heap}
theorem scTaskDemand : FnScope ["task", "ticks", "rows", "at", "row"] ["task", "ticks"] (defScope sTaskDemand) := ⟨rfl, rfl, rfl, by decide +kernel, rfl, by decide +kernel, by decide +kernel⟩
def tl (ks : List (Str × Int × Int)) (as : List (Str × Str × Int)) (T : Nat) : List V := (List.range (T + 1)).map fun (t : Nat) => V.int (td ks as (t : Int))
def spTaskDemand (C : Addr) : Sp := fun vs H Q _ => ∃ (a : Addr) (T : Nat) (ks : List (Str × Int × Int)) (as : List (Str × Str × Int)), vs = [.ref a, .int (T : Int)] ∧ TaskAt C H a ks as ∧ TaskOk ks as ∧ T ≤ 1000 ∧ ∀ H' l, Same H H' → newer H H' l = some (.lst (tl ks as T)) → Q (.ref l) H'
theorem ok_taskDemand {f C : Addr} {fd : FuncData} (F : Fun K "task_demand" "task_demand" sTaskDemand f fd) (g : Gs mg) (c1 : Cal P w K mg base "kind_demands" 4 ["task", "ticks"] (spKindDemands C)) : FnOk P w K mg base CX0 5 f fd ["task", "ticks"] (spTaskDemand C) := by
  refine F.ok scTaskDemand (fun vs H Q E h => ?_) (fun cdv A outer s H vs Q E hr h => ?_)
  · obtain ⟨a, T, ks, as, rfl, _⟩ := h
    rfl
  · obtain ⟨a, TT, ks, as, rfl, hT, ok, hTT, q⟩ := h
    refine ⟨_, pss_cons (ps_set (i := 2) scTaskDemand.nd rfl (Or.inr rfl) (pe_listVals rfl rfl g.list (pc c1 hr (pa_cons (pv 0) (pa_cons (pv 1) pa_nil)))))
      (pss_one (ps_ret (pe_lc (own := [("at", 3)]) rfl scTaskDemand.nd (pi_range1 rfl g.range (pa_cons (pe_op op_add (pv 1) pe_int) pa_nil)) (blkOk_by (N := ["task", "ticks", "rows", "at", "row"]) (sc := defScope sTaskDemand) (by decide +kernel))
        (fun _ _ _ _ _ => pg_name (i := 3) scTaskDemand.nd rfl (Or.inr rfl)) (fun _ _ _ _ _ => pts_nil)
        (fun _ _ _ _ _ => pe_callB (maxS K) (by rfl) g.max (by decide +kernel) (pa_cons (pe_lc (own := [("row", 4)]) rfl scTaskDemand.nd (piL K (pv 2)) (blkOk_by (N := ["task", "ticks", "rows", "at", "row"]) (sc := relS _ (defScope sTaskDemand)) (by decide +kernel))
          (fun _ _ _ _ _ => pg_name (i := 4) scTaskDemand.nd rfl (Or.inl rfl)) (fun _ _ _ _ _ => pts_nil) (fun _ _ _ _ _ => pe_ix (ixL K) (pv 4) (pv 3) (fun _ _ => rfl))) pa_nil))))), ?_⟩
    have h4 := ok.k4
    refine ⟨_, rfl, _, rfl, a, TT, ks, as, rfl, hT, ok, hTT, fun H1 d s1 hd => ?_⟩
    obtain ⟨ls, hll, hdd, hrow⟩ := (hd.keeps (newer_sub _ _)).ex
    refine ⟨d, _, rfl, hdd, fun p hp => ?_⟩
    rw [dtab_vals hll]
    generalize hHp : L2.upd H1 p (.lst (ls.map V.ref)) = Hp'
    have sp : Same H1 Hp' := by rw [← hHp]; exact same_upd hp
    have hpl : Hp' p = some (.lst (ls.map V.ref)) := by rw [← hHp]; exact upd_same
    have s2 : Same H Hp' := Same.trans s1 sp
    refine ⟨_, rfl, _, _, rfl, rfl, _, rfl, by omega, by omega, fun D hD => ?_⟩
    have en : ((TT : Int) + 1).toNat = TT + 1 := by omega
    rw [en]
    refine lcy walk_range0 (fun t Hc => Same Hp' Hc ∧ Hc D = some (.lst (((List.range t).map fun (t : Nat) => td ks as (t : Int)).map V.int))) ⟨same_upd hD, upd_same⟩ (fun _ _ _ _ => True.intro) ?_ ?_
    · rintro t x _ Hc htT ⟨sc, hDc⟩ ⟨rfl, rfl⟩
      refine ⟨rfl, _, rfl, p, rfl, ⟨_, SqL.of (sc _ _ hpl)⟩, fun D2 hD2 => ?_⟩
      refine lcy (walk_list (K := K) (a := p) (xs := ls.map V.ref)) (fun i Hd => Same Hc Hd ∧ Hd D2 = some (.lst (((ks.take i).map fun k => WD.f ks as k.1 (t : Int)).map V.int))) ⟨same_upd hD2, upd_same⟩ (fun i Hd _ h => SqL.of (h.1 _ _ (sc _ _ hpl))) ?_ ?_
      · rintro i x _ Hd hi ⟨sd, hDd⟩ ⟨rfl, hx⟩
        rw [List.getElem?_map] at hx
        obtain ⟨l, hl, rfl⟩ := Option.map_eq_some_iff.mp hx
        have hil : i < ks.length := by
          rw [List.length_map] at hi
          omega
        obtain ⟨k, hk⟩ : ∃ k, ks[i]? = some k := ⟨_, List.getElem?_eq_getElem hil⟩
        have hr := sd _ _ (sc _ _ (sp _ _ (hrow i k l hk hl)))
        refine ⟨rfl, _, rfl, _, rfl, l, _, (t : Int), _, rfl, rfl, SqL.of hr, atI_nat (dl_get (by omega)), _, hDd, ?_, same_up sd hD2, ?_⟩
        · rw [List.length_map, List.length_map, List.length_take, sizeLine_eq]
          omega
        · rw [upd_same, take_snoc hk, List.map_append, List.map_append]
          rfl
      rintro Hd ⟨sd, hDd⟩
      rw [List.length_map, hll, List.take_length] at hDd
      refine ⟨D2, _, rfl, SqL.of hDd, ?_, fun m hm hle => ?_⟩
      · rw [List.length_map]
        exact ok.k1
      · have em : m = td ks as (t : Int) := mx0_eq (fun x hx => by
          obtain ⟨aa, haa, rfl⟩ := List.mem_map.mp hx
          exact f_nonneg ok.sane.pos _ _) hm hle
        refine ⟨_, sd _ _ hDc, ?_, same_up (Same.trans sc sd) hD, ?_⟩
        · rw [List.length_map, List.length_map, List.length_range, sizeLine_eq]
          omega
        · rw [upd_same, List.range_succ, List.map_append, List.map_append, em]
          rfl
    · rintro Hc ⟨sc, hDc⟩
      refine q Hc D (Same.trans s2 sc) (newer_at (Same.free s2 hD) ?_)
      rw [hDc]
      unfold tl
      rw [List.map_map]
      rfl
theorem scDemand : FnScope ["tasks", "ticks", "rows", "task", "at", "row"] ["tasks", "ticks"] (defScope sDemand) := ⟨rfl, rfl, rfl, by decide +kernel, rfl, by decide +kernel, by decide +kernel⟩
def spDemand (C : Addr) : Sp := fun vs H Q _ => ∃ (lt : Addr) (T : Nat) (tks : List Tk), vs = [.ref lt, .int (T : Int)] ∧ LTasks C H lt tks ∧ (∀ x ∈ tks, TaskOk x.1 x.2) ∧ tks.length ≤ 1000 ∧ T ≤ 1000 ∧ ∀ H' l, Same H H' → newer H H' l = some (.lst (dml tks T)) → Q (.ref l) H'
theorem ok_demand {f C : Addr} {fd : FuncData} (F : Fun K "demand" "demand" sDemand f fd) (g : Gs mg) (c1 : Cal P w K mg base "task_demand" 5 ["task", "ticks"] (spTaskDemand C)) : FnOk P w K mg base CX0 6 f fd ["tasks", "ticks"] (spDemand C) := by
  refine F.ok scDemand (fun vs H Q E h => ?_) (fun cdv A outer s H vs Q E hr h => ?_)
  · obtain ⟨a, T, tks, rfl, _⟩ := h
    rfl
  · obtain ⟨lt, TT, tks, rfl, ⟨ts, hts, hta⟩, ok, hfew, hTT, q⟩ := h
    have htl : ts.length = tks.length := hta.length
    refine ⟨_, pss_cons (ps_set (i := 2) scDemand.nd rfl (Or.inr rfl) (pe_lc (own := [("task", 3)]) rfl scDemand.nd (piL K (pv 0)) (blkOk_by (N := ["tasks", "ticks", "rows", "task", "at", "row"]) (sc := defScope sDemand) (by decide +kernel))
        (fun _ _ _ _ _ => pg_name (i := 3) scDemand.nd rfl (Or.inl rfl)) (fun _ _ _ _ _ => pts_nil) (fun _ _ _ _ _ => pc c1 hr (pa_cons (pv 3) (pa_cons (pv 1) pa_nil)))))
      (pss_one (ps_ret (pe_lc (own := [("at", 4)]) rfl scDemand.nd (pi_range1 rfl g.range (pa_cons (pe_op op_add (pv 1) pe_int) pa_nil)) (blkOk_by (N := ["tasks", "ticks", "rows", "task", "at", "row"]) (sc := defScope sDemand) (by decide +kernel))
        (fun _ _ _ _ _ => pg_name (i := 4) scDemand.nd rfl (Or.inr rfl)) (fun _ _ _ _ _ => pts_nil)
        (fun _ _ _ _ _ => pe_callB (sumS K) (by rfl) g.sum (by decide +kernel) (pa_cons (pe_lc (own := [("row", 5)]) rfl scDemand.nd (piL K (pv 2)) (blkOk_by (N := ["tasks", "ticks", "rows", "task", "at", "row"]) (sc := relS _ (defScope sDemand)) (by decide +kernel))
          (fun _ _ _ _ _ => pg_name (i := 5) scDemand.nd rfl (Or.inl rfl)) (fun _ _ _ _ _ => pts_nil) (fun _ _ _ _ _ => pe_ix (ixL K) (pv 5) (pv 4) (fun _ _ => rfl))) pa_nil))))), ?_⟩
    refine ⟨_, rfl, lt, rfl, ⟨_, SqL.of hts⟩, fun R hR => ?_⟩
    refine lcy (walk_list (K := K) (a := lt) (xs := ts)) (fun i Hc => Same H Hc ∧ ∃ ls : List Addr, ls.length = i ∧ Hc R = some (.lst (ls.map V.ref)) ∧ ∀ (j : Nat) (x : Tk) (l : Addr), tks[j]? = some x → ls[j]? = some l → newer H Hc l = some (.lst (tl x.1 x.2 TT)))
      ⟨same_upd hR, [], rfl, upd_same, fun j x l _ h => by simp at h⟩ (fun i Hc _ h => SqL.of (h.1 _ _ hts)) ?_ ?_
    · rintro i x _ Hc hi ⟨sc, ls, hll, hRc, hrow⟩ ⟨rfl, hx⟩
      obtain ⟨tk, htk, a, rfl, hT⟩ := hta.get hx
      refine ⟨rfl, _, rfl, _, rfl, a, TT, tk.1, tk.2, rfl, hT.keeps sc, ok tk (List.mem_of_getElem? htk), hTT, fun H2 l s2 hl => ?_⟩
      have hR2 := s2 _ _ hRc
      refine ⟨_, hR2, ?_, same_up (Same.trans sc s2) hR, ls ++ [l], ?_, ?_, fun j x' l' hx' hl' => ?_⟩
      · rw [List.length_map, sizeLine_eq]
        omega
      · rw [List.length_append, hll]
        rfl
      · rw [upd_same, List.map_append]
        rfl
      · have key : newer H H2 l' = some (.lst (tl x'.1 x'.2 TT)) := by
          by_cases hji : j < i
          · rw [List.getElem?_append_left (by omega)] at hl'
            exact newer_same s2 _ _ (hrow j x' l' hx' hl')
          · have hj : j = ls.length := by
              have := (List.getElem?_eq_some_iff.mp hl').1
              rw [List.length_append] at this
              simp only [List.length_cons, List.length_nil] at this
              omega
            subst hj
            rw [List.getElem?_append_right (Nat.le_refl _), Nat.sub_self] at hl'
            simp only [List.getElem?_cons_zero, Option.some.injEq] at hl'
            subst hl'
            rw [hll] at hx'
            rw [htk] at hx'
            cases hx'
            exact newer_dom (same_dom sc) _ _ hl
        refine newer_at (newer_none key) ?_
        have hk2 := newer_sub _ _ _ _ key
        rw [upd_ne (fun z => ?_)]
        · exact hk2
        · rw [z, hR2] at hk2
          have e1 : ls.map V.ref = tl x'.1 x'.2 TT := by
            injection hk2 with hk2
            injection hk2
          have e2 := tl_get (ks := x'.1) (as := x'.2) (T := TT) (t := 0) (by omega)
          have e3 : (ls.map V.ref)[0]? = some (.int (td x'.1 x'.2 ((0 : Nat) : Int))) := by
            rw [e1]
            exact e2
          rw [List.getElem?_map] at e3
          obtain ⟨l0, _, h0⟩ := Option.map_eq_some_iff.mp e3
          cases h0
    rintro Hp' ⟨sp, ls, hll, hpl, hrow⟩
    rw [htl] at hll
    refine ⟨_, rfl, _, _, rfl, rfl, _, rfl, by omega, by omega, fun D hD => ?_⟩
    have en : ((TT : Int) + 1).toNat = TT + 1 := by omega
    rw [en]
    refine lcy walk_range0 (fun t Hc => Same Hp' Hc ∧ Hc D = some (.lst (((List.range t).map fun (t : Nat) => (tks.map fun x => td x.1 x.2 (t : Int)).sum).map V.int))) ⟨same_upd hD, upd_same⟩ (fun _ _ _ _ => True.intro) ?_ ?_
    · rintro t x _ Hc htT ⟨sc, hDc⟩ ⟨rfl, rfl⟩
      refine ⟨rfl, _, rfl, R, rfl, ⟨_, SqL.of (sc _ _ hpl)⟩, fun D2 hD2 => ?_⟩
      refine lcy (walk_list (K := K) (a := R) (xs := ls.map V.ref)) (fun i Hd => Same Hc Hd ∧ Hd D2 = some (.lst (((tks.take i).map fun x => td x.1 x.2 (t : Int)).map V.int))) ⟨same_upd hD2, upd_same⟩ (fun i Hd _ h => SqL.of (h.1 _ _ (sc _ _ hpl))) ?_ ?_
      · rintro i x _ Hd hi ⟨sd, hDd⟩ ⟨rfl, hx⟩
        rw [List.getElem?_map] at hx
        obtain ⟨l, hl, rfl⟩ := Option.map_eq_some_iff.mp hx
        have hil : i < tks.length := by
          rw [List.length_map] at hi
          omega
        obtain ⟨k, hk⟩ : ∃ k, tks[i]? = some k := ⟨_, List.getElem?_eq_getElem hil⟩
        have hr := sd _ _ (sc _ _ (newer_sub _ _ _ _ (hrow i k l hk hl)))
        refine ⟨rfl, _, rfl, _, rfl, l, _, (t : Int), _, rfl, rfl, SqL.of hr, atI_nat (tl_get (by omega)), _, hDd, ?_, same_up sd hD2, ?_⟩
        · rw [List.length_map, List.length_map, List.length_take, sizeLine_eq]
          omega
        · rw [upd_same, take_snoc hk, List.map_append, List.map_append]
          rfl
      rintro Hd ⟨sd, hDd⟩
      rw [List.length_map, hll, List.take_length] at hDd
      refine ⟨D2, _, rfl, SqL.of hDd, ?_⟩
      refine ⟨_, sd _ _ hDc, ?_, same_up (Same.trans sc sd) hD, ?_⟩
      · rw [List.length_map, List.length_map, List.length_range, sizeLine_eq]
        omega
      · rw [upd_same, List.range_succ, List.map_append, List.map_append]
        rfl
    · rintro Hc ⟨sc, hDc⟩
      refine q Hc D (Same.trans sp sc) (newer_at (Same.free sp hD) ?_)
      rw [hDc]
      unfold dml
      rw [List.map_map]
      rfl
end
end WD
/-! demand.py: the heavy walk -/
namespace WD
open PySem PySem.Spec PyProof.Rows L2
abbrev sHeaviest : Stmt := top 24
abbrev sNextStep : Stmt := top 25
abbrev sHeavyWalk : Stmt := top 26
theorem DemD.at {G : Hp} {d : Addr} {ks : List (Str × Int × Int)} {as : List (Str × Str × Int)} {T : Nat} {k : Str × Int × Int} (h : DemD G d ks as T) (nd : (ks.map (·.1)).Nodup) (hk : k ∈ ks) : ∃ kvs l, G d = some (.dK kvs) ∧ valV kvs (.inr k.1) = some (.ref l) ∧ G l = some (.lst (dl ks as k.1 (T + 1))) := by
  obtain ⟨ls, h1, h2, h3⟩ := h.ex
  obtain ⟨j, hj, e⟩ := List.mem_iff_getElem.mp hk
  have hj' : ks[j]? = some k := by rw [List.getElem?_eq_getElem hj, e]
  obtain ⟨l, hl⟩ : ∃ l, ls[j]? = some l := ⟨_, List.getElem?_eq_getElem (by omega)⟩
  exact ⟨_, l, h2, dtab_val nd hj' hl, h3 j k l hj' hl⟩
def spHeaviest : Sp := fun vs H Q _ => ∃ (d lk : Addr) (t T : Nat) (ks : List (Str × Int × Int)) (as : List (Str × Str × Int)), vs = [.ref d, .ref lk, .int (t : Int)] ∧ DemD H d ks as T ∧ TaskOk ks as ∧ H lk = some (.lst (ks.map fun k => V.str k.1)) ∧ t ≤ T ∧
  ∀ k ∈ ks, WD.f ks as k.1 (t : Int) = td ks as (t : Int) → Q (.str k.1) H
theorem mx0_snoc : ∀ {l : List Int} {x : Int}, 0 ≤ x → mx0 (l ++ [x]) = if mx0 l < x then x else mx0 l
  | [], x, h => by
    show (if mx0 [] ≤ x then x else mx0 []) = if mx0 [] < x then x else mx0 []
    have e : mx0 [] = 0 := rfl
    rw [e]
    split <;> split <;> omega
  | y :: l, x, h => by
    have ih := mx0_snoc (l := l) h
    show (if mx0 (l ++ [x]) ≤ y then y else mx0 (l ++ [x])) = if (if mx0 l ≤ y then y else mx0 l) < x then x else (if mx0 l ≤ y then y else mx0 l)
    rw [ih]
    by_cases h1 : mx0 l < x
    · rw [if_pos h1]
      by_cases h2 : mx0 l ≤ y
      · rw [if_pos h2]
        split <;> split <;> omega
      · rw [if_neg h2, if_pos h1]
        split <;> omega
    · rw [if_neg h1]
      by_cases h2 : mx0 l ≤ y
      · rw [if_pos h2]
        split <;> omega
      · rw [if_neg h2, if_neg h1]
/-- the followers that may be reached, among some -/
def inT (left : Int) (l : List (Str × Str × Int)) : List (Str × Str × Int) := l.filter fun a => decide (a.2.2 ≤ left)
def spNextStep : Sp := fun vs H Q _ => ∃ (d fl : Addr) (n : Str) (t T : Nat) (ks : List (Str × Int × Int)) (as : List (Str × Str × Int)), vs = [.ref d, .ref fl, .int (t : Int)] ∧ DemD H d ks as T ∧ TaskOk ks as ∧ LRows H fl ((foll as n).map fv) ∧ t ≤ T ∧ T ≤ 1000 ∧
  (mx0 ((outs as n (t : Int)).map fun a => WD.f ks as a.2.1 ((t : Int) - a.2.2)) = 0 → ∀ H', Same H H' → Q .non H') ∧
  ∀ a ∈ as, a.1 = n → a.2.2 ≤ (t : Int) → WD.f ks as a.2.1 ((t : Int) - a.2.2) = mx0 ((outs as n (t : Int)).map fun a => WD.f ks as a.2.1 ((t : Int) - a.2.2)) → ∀ H' p, Same H H' → H' p = some (.tup (fv a)) → Q (.ref p) H'
section
variable {P : Program} {w : World} {K : PySem.W.Frag} {mg : Str → Option Value} {base : Heap}
theorem scHeaviest : FnScope ["table", "kinds", "at", "best", "kind"] ["table", "kinds", "at"] (defScope sHeaviest) := ⟨rfl, rfl, rfl, by decide +kernel, rfl, by decide +kernel, by decide +kernel⟩
theorem ok_heaviest {fa : Addr} {fd : FuncData} (F : Fun K "heaviest_kind" "heaviest_kind" sHeaviest fa fd) : FnOk P w K mg base CX0 1 fa fd ["table", "kinds", "at"] spHeaviest := by
  refine F.ok scHeaviest (fun vs H Q E h => ?_) (fun cdv A outer s H vs Q E hr h => ?_)
  · obtain ⟨d, lk, t, T, ks, as, rfl, _⟩ := h
    rfl
  · obtain ⟨d, lk, t, T, ks, as, rfl, hD, ok, hlk, htT, q⟩ := h
    have hu := roomU hr
    refine ⟨_, pss_cons (ps_set (i := 3) scHeaviest.nd rfl (Or.inl rfl) (pe_ix (ixL K) (pv 1) pe_int (fun _ _ => rfl)))
      (pss_cons (ps_for PassesOwn.never rfl (piL K (pv 1)) (pg_name (i := 4) scHeaviest.nd rfl (Or.inl rfl))
        (pss_one (ps_if (pt_cmpR op_gt (pe_ix (ixL K) (pe_dget hu (pv 0) (pv 4) (fun _ _ => rfl)) (pv 2) (fun _ _ => rfl)) (pe_ix (ixL K) (pe_dget hu (pv 0) (pv 3) (fun _ _ => rfl)) (pv 2) (fun _ _ => rfl)) (nomark _))
          (pss_one (ps_set (i := 3) scHeaviest.nd rfl (Or.inl rfl) (pv 4))) pss_nil)))
      (pss_one (ps_ret (pv 3)))), ?_⟩
    obtain ⟨k0, hk0⟩ : ∃ k0, ks[0]? = some k0 := ⟨_, List.getElem?_eq_getElem ok.k1⟩
    refine ⟨_, rfl, lk, _, 0, .str k0.1, rfl, rfl, SqL.of hlk, atI_nat (j := 0) (by rw [List.getElem?_map, hk0]; rfl), ?_⟩
    refine ⟨_, rfl, lk, rfl, ⟨_, SqL.of hlk⟩, ?_⟩
    refine for_it (walk_list (K := K) (a := lk) (xs := ks.map fun k => V.str k.1)) (fun i σ Hc => Hc = H ∧ ∃ b v, b ∈ ks ∧ σ = [some (.ref d), some (.ref lk), some (.int (t : Int)), some (.str b.1), v] ∧ ∀ j x, j < i → ks[j]? = some x → WD.f ks as x.1 (t : Int) ≤ WD.f ks as b.1 (t : Int))
      ⟨rfl, k0, none, List.mem_of_getElem? hk0, rfl, fun j x hj => absurd hj (Nat.not_lt_zero _)⟩ (fun i σ Hc _ h => by rw [h.1]; exact SqL.of hlk) ?_ ?_
    · rintro i x σ _ Hc hi ⟨rfl, b, v, hb, rfl, hle⟩ ⟨rfl, hx⟩
      rw [List.getElem?_map] at hx
      obtain ⟨k, hk, rfl⟩ := Option.map_eq_some_iff.mp hx
      obtain ⟨kv1, l1, h1, h2, h3⟩ := hD.at ok.nd (List.mem_of_getElem? hk)
      obtain ⟨kv2, l2, h4, h5, h6⟩ := hD.at ok.nd hb
      refine ⟨_, rfl, _, rfl, d, .ref l1, rfl, .inl ⟨kv1, .inr k.1, .inl h1, rfl, h2.symm⟩, _, rfl, l1, _, (t : Int), _, rfl, rfl, SqL.of h3, atI_nat (dl_get (by omega)), ?_⟩
      refine ⟨_, rfl, _, rfl, d, .ref l2, rfl, .inl ⟨kv2, .inr b.1, .inl h4, rfl, h5.symm⟩, _, rfl, l2, _, (t : Int), _, rfl, rfl, SqL.of h6, atI_nat (dl_get (by omega)), ?_⟩
      refine ⟨_, _, rfl, rfl, decide (WD.f ks as b.1 (t : Int) < WD.f ks as k.1 (t : Int)), rfl, ?_⟩
      by_cases hc : WD.f ks as b.1 (t : Int) < WD.f ks as k.1 (t : Int)
      · refine ifT (decide_eq_true hc) ⟨_, rfl, rfl, k, _, List.mem_of_getElem? hk, rfl, fun j y hj hy => ?_⟩
        by_cases hji : j = i
        · subst hji
          rw [hk] at hy
          cases hy
          exact Int.le_refl _
        · have := hle j y (by omega) hy
          omega
      · refine ifF (decide_eq_false hc) ⟨rfl, b, _, hb, rfl, fun j y hj hy => ?_⟩
        by_cases hji : j = i
        · subst hji
          rw [hk] at hy
          cases hy
          omega
        · exact hle j y (by omega) hy
    · rintro σ Hc ⟨rfl, b, v, hb, rfl, hle⟩
      rw [List.length_map] at hle
      refine ⟨_, rfl, q b hb ?_⟩
      refine mx0_eq (fun x hx => ?_) (List.mem_map.mpr ⟨b, hb, rfl⟩) fun y hy => ?_
      · obtain ⟨aa, haa, rfl⟩ := List.mem_map.mp hx
        exact f_nonneg ok.sane.pos _ _
      · obtain ⟨aa, haa, rfl⟩ := List.mem_map.mp hy
        obtain ⟨j, hj, e⟩ := List.mem_iff_getElem.mp haa
        exact hle j aa hj (by rw [List.getElem?_eq_getElem hj, e])
theorem scNextStep : FnScope ["table", "followers", "left", "best", "most", "second", "gap"] ["table", "followers", "left"] (defScope sNextStep) := ⟨rfl, rfl, rfl, by decide +kernel, rfl, by decide +kernel, by decide +kernel⟩
theorem ok_nextStep {fa : Addr} {fd : FuncData} (F : Fun K "next_step" "next_step" sNextStep fa fd) : FnOk P w K mg base CX0 1 fa fd ["table", "followers", "left"] spNextStep := by
  refine F.ok scNextStep (fun vs H Q E h => ?_) (fun cdv A outer s H vs Q E hr h => ?_)
  · obtain ⟨d, fl, n, t, T, ks, as, rfl, _⟩ := h
    rfl
  · obtain ⟨d, fl, n, t, T, ks, as, rfl, hD, ok, hfl, htT, hT, q0, q1⟩ := h
    have hu := roomU hr
    refine ⟨_, pss_cons (ps_set (i := 3) scNextStep.nd rfl (Or.inl rfl) pe_non)
      (pss_cons (ps_set (i := 4) scNextStep.nd rfl (Or.inl rfl) pe_int)
      (pss_cons (ps_for PassesOwn.never rfl (piL K (pv 1)) (pgT K (pgs_cons (pg_name (i := 5) scNextStep.nd rfl (Or.inl rfl)) (pgs_cons (pg_name (i := 6) scNextStep.nd rfl (Or.inl rfl)) pgs_nil)))
        (pss_one (ps_if (pw_and (pt_cmpR op_le (pv 6) (pv 2) (nomark _)) (pw_and1 (pt_cmpR op_gt (pe_ix (ixL K) (pe_dget hu (pv 0) (pv 5) (fun _ _ => rfl)) (pe_op op_sub (pv 2) (pv 6)) (fun _ _ => rfl)) (pv 4) (nomark _)))).pt
          (pss_cons (ps_set (i := 3) scNextStep.nd rfl (Or.inl rfl) (pe_tup (pa_cons (pv 5) (pa_cons (pv 6) pa_nil))))
          (pss_one (ps_set (i := 4) scNextStep.nd rfl (Or.inl rfl) (pe_ix (ixL K) (pe_dget hu (pv 0) (pv 5) (fun _ _ => rfl)) (pe_op op_sub (pv 2) (pv 6)) (fun _ _ => rfl))))) pss_nil)))
      (pss_one (ps_ret (pv 3))))), ?_⟩
    obtain ⟨us, hus, hur⟩ := id hfl
    have hul : us.length = (foll as n).length := by rw [hur.length, List.length_map]
    refine ⟨_, rfl, fl, rfl, ⟨_, SqL.of hus⟩, ?_⟩
    refine for_it (walk_list (K := K) (a := fl) (xs := us)) (fun i σ Hc => Same H Hc ∧ ∃ (b : V) (m : Int) (v5 v6 : Option V), σ = [some (.ref d), some (.ref fl), some (.int (t : Int)), some b, some (.int m), v5, v6] ∧ m = mx0 ((inT (t : Int) ((foll as n).take i)).map fun a => WD.f ks as a.2.1 ((t : Int) - a.2.2)) ∧
        ((m = 0 ∧ b = .non) ∨ ∃ a p, a ∈ as ∧ a.1 = n ∧ a.2.2 ≤ (t : Int) ∧ WD.f ks as a.2.1 ((t : Int) - a.2.2) = m ∧ b = .ref p ∧ Hc p = some (.tup (fv a))))
      ⟨Same.refl _, .non, 0, none, none, rfl, rfl, .inl ⟨rfl, rfl⟩⟩ (fun i σ Hc _ h => SqL.of (h.1 _ _ hus)) ?_ ?_
    · rintro i x σ _ Hc hi ⟨sc, b, m, v5, v6, rfl, hm, hb⟩ ⟨rfl, hx⟩
      obtain ⟨xs, hxs, tt, rfl, htt⟩ := hur.get hx
      rw [List.getElem?_map] at hxs
      obtain ⟨a, ha, rfl⟩ := Option.map_eq_some_iff.mp hxs
      have ham := List.mem_filter.mp (List.mem_of_getElem? ha)
      have han : a.1 = n := by simpa using ham.2
      have hga := ok.ag _ ham.1
      refine ⟨tt, _, rfl, SqT.of (sc _ _ htt), rfl, _, _, rfl, _, _, rfl, rfl, ?_⟩
      refine ⟨_, rfl, _, rfl, _, _, rfl, rfl, decide (a.2.2 ≤ (t : Int)), rfl, ?_⟩
      by_cases hgt : a.2.2 ≤ (t : Int)
      · refine ifT (decide_eq_true hgt) ?_
        obtain ⟨k2, hk2, ek2⟩ := List.mem_map.mp (ok.fs _ ham.1).2
        obtain ⟨kv1, l1, h1, h2, h3⟩ := (hD.keeps sc).at ok.nd hk2
        have hgn : ((t : Int) - a.2.2) = ((t - a.2.2.toNat : Nat) : Int) := by omega
        have hg3 : (dl ks as k2.1 (T + 1))[t - a.2.2.toNat]? = some (.int (WD.f ks as a.2.1 ((t : Int) - a.2.2))) := by
          rw [dl_get (by omega), ek2, hgn]
        refine ⟨_, rfl, _, rfl, d, .ref l1, rfl, .inl ⟨kv1, .inr k2.1, .inl h1, congrArg V.str ek2.symm, h2.symm⟩, _, rfl, _, rfl, _, _, rfl, rfl, l1, _, _, _, rfl, congrArg V.int hgn, SqL.of h3, atI_nat hg3, _, rfl, _, _, rfl, rfl, decide (m < WD.f ks as a.2.1 ((t : Int) - a.2.2)), rfl, ?_⟩
        have hin : inT (t : Int) ((foll as n).take (i + 1)) = inT (t : Int) ((foll as n).take i) ++ [a] := by
          unfold inT
          rw [take_snoc ha, List.filter_append, List.filter_cons_of_pos (by simpa using hgt)]
          rfl
        have hsn := mx0_snoc (l := (inT (t : Int) ((foll as n).take i)).map fun a => WD.f ks as a.2.1 ((t : Int) - a.2.2)) (x := WD.f ks as a.2.1 ((t : Int) - a.2.2)) (f_nonneg ok.sane.pos _ _)
        by_cases hc : m < WD.f ks as a.2.1 ((t : Int) - a.2.2)
        · refine ifT (decide_eq_true hc) ?_
          refine ⟨_, rfl, _, rfl, (by show 2 ≤ sizeLine; decide), fun p hp => ?_⟩
          have sp := same_upd (o := .tup [.str a.2.1, .int a.2.2]) hp
          refine ⟨_, rfl, _, rfl, d, .ref l1, rfl, .inl ⟨kv1, .inr k2.1, .inl (sp _ _ h1), congrArg V.str ek2.symm, h2.symm⟩, _, rfl, _, rfl, _, _, rfl, rfl, l1, _, _, _, rfl, congrArg V.int hgn, SqL.of (sp _ _ h3), atI_nat hg3, ?_⟩
          refine ⟨Same.trans sc sp, _, _, _, _, rfl, ?_, .inr ⟨a, p, ham.1, han, hgt, rfl, rfl, upd_same⟩⟩
          rw [hin, List.map_append]
          show _ = mx0 (_ ++ [WD.f ks as a.2.1 ((t : Int) - a.2.2)])
          rw [hsn, ← hm, if_pos hc]
        · refine ifF (decide_eq_false hc) ?_
          refine ⟨sc, b, m, _, _, rfl, ?_, hb⟩
          rw [hin, List.map_append]
          show _ = mx0 (_ ++ [WD.f ks as a.2.1 ((t : Int) - a.2.2)])
          rw [hsn, ← hm, if_neg hc]
      · refine ifF (decide_eq_false hgt) ?_
        refine ifF rfl ?_
        refine ⟨sc, b, m, _, _, rfl, ?_, hb⟩
        have hin : inT (t : Int) ((foll as n).take (i + 1)) = inT (t : Int) ((foll as n).take i) := by
          unfold inT
          rw [take_snoc ha, List.filter_append, List.filter_cons_of_neg (by simpa using hgt), List.filter_nil, List.append_nil]
        rw [hin]
        exact hm
    · rintro σ Hc ⟨sc, b, m, v5, v6, rfl, hm, hb⟩
      rw [hul, List.take_length] at hm
      have hout : inT (t : Int) (foll as n) = outs as n (t : Int) := by
        unfold inT foll outs
        rw [List.filter_filter]
        congr 1
        funext a
        exact Bool.and_comm _ _
      rw [hout] at hm
      rcases hb with ⟨h0, rfl⟩ | ⟨a, p, h1, h2, h3, h4, rfl, h5⟩
      · exact ⟨_, rfl, q0 (by rw [← hm]; exact h0) _ sc⟩
      · exact ⟨_, rfl, q1 a h1 h2 h3 (by rw [h4]; exact hm) _ p sc h5⟩
end
end WD
/-! demand.py: heavy_walk -/
namespace WD
open PySem PySem.Spec PyProof.Rows L2
def wv (j : Str × Int) : List V := [.str j.1, .int j.2]
def full (ks : List (Str × Int × Int)) (j : Str × Int) : Str × Int × Int := (j.1, j.2, costOf ks j.1)
def spHeavyWalk (C : Addr) : Sp := fun vs H Q _ => ∃ (a : Addr) (T : Nat) (ks : List (Str × Int × Int)) (as : List (Str × Str × Int)), vs = [.ref a, .int (T : Int)] ∧ TaskAt C H a ks as ∧ TaskOk ks as ∧ T ≤ 1000 ∧
  ∀ H' l (w : List (Str × Int)), Same H H' → LRows (newer H H') l (w.map wv) → WalkOk ks as 1 (w.map (full ks)) → untilB ks 1 (T : Int) (w.map (full ks)) = td ks as (T : Int) → (w.length : Int) ≤ (T : Int) + 1 → Q (.ref l) H'
section
variable {P : Program} {w : World} {K : PySem.W.Frag} {mg : Str → Option Value} {base : Heap}
theorem scHeavyWalk : FnScope ["task", "ticks", "table", "kind", "walk", "left", "step", "row"] ["task", "ticks"] (defScope sHeavyWalk) := ⟨rfl, rfl, rfl, by decide +kernel, rfl, by decide +kernel, by decide +kernel⟩
theorem ok_heavyWalk {fa C fR pK gK : Addr} {fd fdR fdK : FuncData} (F : Fun K "heavy_walk" "heavy_walk" sHeavyWalk fa fd) (T : TaskC K C) (g : Gs mg)
    (G : FnOk P w K mg base CX0 2 fR fdR ["self", "kind"] (spFollowers C)) (m : Meth K C "followers" fR) (b : Binds K fdR ["self", "kind"] [])
    (GK : FnOk P w K mg base CX0 1 gK fdK ["self"] (spTKinds C)) (mK : PropOf K C "kinds" pK gK) (bK : Binds K fdK ["self"] [])
    (c1 : Cal P w K mg base "kind_demands" 4 ["task", "ticks"] (spKindDemands C)) (c2 : Cal P w K mg base "heaviest_kind" 1 ["table", "kinds", "at"] spHeaviest) (c3 : Cal P w K mg base "next_step" 1 ["table", "followers", "left"] spNextStep) : FnOk P w K mg base CX0 5 fa fd ["task", "ticks"] (spHeavyWalk C) := by
  refine F.ok scHeavyWalk (fun vs H Q E h => ?_) (fun cdv A outer s H vs Q E hr h => ?_)
  · obtain ⟨a, T, ks, as, rfl, _⟩ := h
    rfl
  · obtain ⟨a, TT, ks, as, rfl, hT, ok, hTT, q⟩ := h
    have hu := roomU hr
    have hr2 : Room 2 _ := hr.mono (by decide)
    have hr4 : Room 2 _ := hr.mono (by decide)
    refine ⟨_, pss_cons (ps_set (i := 2) scHeavyWalk.nd rfl (Or.inl rfl) (pc c1 hr (pa_cons (pv 0) (pa_cons (pv 1) pa_nil))))
      (pss_cons (ps_set (i := 3) scHeavyWalk.nd rfl (Or.inl rfl) (pc c2 hr (pa_cons (pv 2) (pa_cons
          (pe_lc (own := [("row", 7)]) rfl scHeavyWalk.nd (piL K (pe_prop (pv 0) T.cl mK GK hr2 bK .nil pass0 rfl)) (blkOk_by (N := ["task", "ticks", "table", "kind", "walk", "left", "step", "row"]) (sc := defScope sHeavyWalk) (by decide +kernel))
            (fun _ _ _ _ _ => pg_name (i := 7) scHeavyWalk.nd rfl (Or.inl rfl)) (fun _ _ _ _ _ => pts_nil) (fun _ _ _ _ _ => pe_ix (ixT K) (pv 7) pe_int (fun _ _ => rfl))) (pa_cons (pv 1) pa_nil)))))
      (pss_cons (ps_if (pt_cmpR op_eq (pe_ix (ixL K) (pe_dget hu (pv 2) (pv 3) (fun _ _ => rfl)) (pv 1) (fun _ _ => rfl)) pe_int (nomark _)) (pss_one (ps_ret (pe_lst pa_nil))) pss_nil)
      (pss_cons (ps_set (i := 4) scHeavyWalk.nd rfl (Or.inl rfl) (pe_lst (pa_cons (pe_tup (pa_cons (pv 3) (pa_cons pe_int pa_nil))) pa_nil)))
      (pss_cons (ps_set (i := 5) scHeavyWalk.nd rfl (Or.inl rfl) (pv 1))
      (pss_cons (ps_whileW PassesOwn.never (ptw_cmp op_notN (pew_named (i := 6) scHeavyWalk.nd rfl (Or.inl rfl) (pew_of (pc c3 hr (pa_cons (pv 2)
            (pa_cons (pe_meth (pv 0) T.cl m G hr2 b .nil pass0 (pa_cons (pe_ix (ixT K) (pe_ix (ixL K) (pv 4) (pe_un un_neg pe_int) (fun _ _ => rfl)) pe_int (fun _ _ => rfl)) pa_nil)) (pa_cons (pv 5) pa_nil)))))) pe_non (nomark _))
          (pss_cons (ps_aug (i := 5) scHeavyWalk.nd rfl (Or.inl rfl) (pe_ix (ixT K) (pv 6) pe_int (fun _ _ => rfl)) ip_sub)
          (pss_one (ps_expr (pe_bm PySem.F.plainAttrs_list PySem.F.slot_list_append PySem.F.type_list_append mt_append (pv 4) (pa_cons (pe_tup (pa_cons (pe_ix (ixT K) (pv 6) pe_int (fun _ _ => rfl)) (pa_cons (pe_op op_sub (pv 1) (pv 5)) pa_nil))) pa_nil))))) pss_nil)
      (pss_one (ps_ret (pv 4)))))))), ?_⟩
    obtain ⟨dx, nm, lkr, lar, ha, _⟩ := id hT
    refine ⟨_, rfl, _, rfl, a, TT, ks, as, rfl, hT, ok, hTT, fun H1 d s1 hd => ?_⟩
    have hd1 := hd.keeps (newer_sub _ _)
    refine ⟨_, rfl, _, rfl, a, dx, _, rfl, s1 _ _ ha, a, ks, as, rfl, hT.keeps s1, fun lk us hlk hur => ?_⟩
    have s2 : Same H1 (L2.upd H1 lk (.lst us)) := same_upd hlk
    refine ⟨lk, rfl, ⟨_, SqL.of upd_same⟩, fun D hD => ?_⟩
    have hul : us.length = ks.length := by rw [hur.length, List.length_map]
    have h4 := ok.k4
    refine lcy (walk_list (K := K) (a := lk) (xs := us)) (fun i Hc => Same (L2.upd H1 lk (.lst us)) Hc ∧ Hc D = some (.lst ((ks.take i).map fun k => V.str k.1))) ⟨same_upd hD, upd_same⟩ (fun i Hc _ h => SqL.of (h.1 _ _ upd_same)) ?_ ?_
    · rintro i x _ Hc hi ⟨sc, hDc⟩ ⟨rfl, hx⟩
      obtain ⟨xs, hxs, t, rfl, ht⟩ := hur.get hx
      rw [List.getElem?_map] at hxs
      obtain ⟨k, hk, rfl⟩ := Option.map_eq_some_iff.mp hxs
      refine ⟨rfl, _, rfl, t, _, 0, .str k.1, rfl, rfl, SqT.of (sc _ _ (s2 _ _ ht)), atI_nat (j := 0) rfl, _, hDc, ?_, same_up sc hD, ?_⟩
      · rw [List.length_map, List.length_take, sizeLine_eq]
        omega
      · rw [upd_same, take_snoc hk, List.map_append]
        rfl
    rintro Hc ⟨sc, hDc⟩
    rw [hul, List.take_length] at hDc
    have s3 : Same H1 Hc := Same.trans s2 sc
    have sH : Same H Hc := Same.trans s1 s3
    refine ⟨_, rfl, d, D, TT, TT, ks, as, rfl, hd1.keeps s3, ok, hDc, Nat.le_refl _, fun k hk hf => ?_⟩
    obtain ⟨kv1, l1, h1, h2, h3⟩ := (hd1.keeps s3).at ok.nd hk
    refine ⟨_, rfl, _, rfl, d, .ref l1, rfl, .inl ⟨kv1, .inr k.1, .inl h1, rfl, h2.symm⟩, _, rfl, l1, _, (TT : Int), _, rfl, rfl, SqL.of h3, atI_nat (dl_get (by omega)), rfl, _, rfl, ?_⟩
    by_cases h0 : WD.f ks as k.1 (TT : Int) = 0
    · refine ifT (decide_eq_true (by rw [h0])) ⟨(by show 0 ≤ sizeLine; decide), fun p hp => ?_⟩
      refine q _ p [] (same_up sH (Same.free sH hp)) ⟨[], newer_at (Same.free sH hp) upd_same, .nil⟩ ⟨fun j hj => by simp at hj, Adj.nil⟩ ?_ (by simp; omega)
      show (0 : Int) = _
      rw [← hf, h0]
    refine ifF (decide_eq_false (fun z => h0 (by injection z))) ?_
    refine ⟨_, rfl, (by show 2 ≤ sizeLine; decide), fun t0 ht0 => ⟨(by show 1 ≤ sizeLine; decide), fun wl hwl => ⟨_, rfl, ?_⟩⟩⟩
    have hst : Heavy ks as (TT : Int) [] k.1 (TT : Int) := Heavy.start (Int.natCast_nonneg _) (List.mem_map.mpr ⟨k, hk, rfl⟩) hf
    refine ⟨fun m σ Hd => ∃ (w : List (Str × Int)) (n : Str) (left : Nat) (li : Int) (v3 v6 v7 : Option V) (vs : List V) (tl : Addr), m = left ∧ li = (left : Int) ∧ Heavy ks as (TT : Int) w n (left : Int) ∧ σ = [some (.ref a), some (.int (TT : Int)), some (.ref d), v3, some (.ref wl), some (.int li), v6, v7] ∧ Same Hc Hd ∧
      Hd wl = some (.lst (vs ++ [.ref tl])) ∧ Rows (newer H Hd) vs (w.map wv) ∧ newer H Hd tl = some (.tup (wv (n, (TT : Int) - left))), ⟨TT, [], k.1, TT, (TT : Int), _, _, _, [], t0, rfl, rfl, hst, rfl, ?_, upd_same, .nil, ?_⟩, ?_⟩
    · exact Same.trans (same_upd ht0) (same_upd hwl)
    · refine newer_at (Same.free sH ht0) ?_
      rw [upd_ne (fun z => ?_), upd_same]
      · unfold wv
        rw [Int.sub_self]
      · subst z
        rw [upd_same] at hwl
        cases hwl
    rintro left σ Hd ⟨w, n, _, _, v3, v6, v7, vs, tl, rfl, rfl, hv, rfl, sd, hwd, hvr, htl⟩
    have s4 : Same H Hd := Same.trans sH sd
    have hnl := hv.len
    have hTl := hv.hT
    refine ⟨_, rfl, _, rfl, a, dx, _, rfl, s4 _ _ ha, tk_no _ _ _, _, rfl, _, rfl, wl, _, -1, .ref tl, rfl, rfl, SqL.of hwd, atI_last _ _, tl, _, 0, .str n, rfl, rfl, SqT.of (newer_sub _ _ _ _ htl), atI_nat (j := 0) rfl, a, n, ks, as, rfl, hT.keeps s4, ok.nd, hv.nm, ok.a12, fun H5 fl s5 hfl => ?_⟩
    have s6 : Same H1 H5 := Same.trans s3 (Same.trans sd s5)
    refine ⟨_, rfl, d, fl, n, left, TT, ks, as, rfl, hd1.keeps s6, ok, hfl.keeps (newer_sub _ _), (by omega), hTT, fun hz H6 s7 => ?_, fun aa haa han hgt hmx H6 p s7 hp => ?_⟩
    · refine ⟨rfl, _, rfl, ifF (by rfl) ?_⟩
      have s8 : Same Hd H6 := Same.trans s5 s7
      refine ⟨_, rfl, q H6 wl (w ++ [(n, (TT : Int) - left)]) (Same.trans s4 s8) ⟨_, newer_same s8 _ _ (newer_at (Same.free sH ?_) hwd), ?_⟩ (Heavy.walk ok.sane hv) (Heavy.stop ok.sane hv hz) ?_⟩
      · exact Same.free (same_upd ht0) hwl
      · rw [List.map_append]
        exact (Rows.keeps hvr (newer_same s8)).snoc ⟨tl, rfl, newer_same s8 _ _ htl⟩
      · rw [List.length_append, List.length_singleton]
        omega
    · refine ⟨rfl, _, rfl, ifT (by rfl) ⟨fun σ' H' => ∃ m', m' < left ∧ (fun m σ Hd => ∃ (w : List (Str × Int)) (n : Str) (left : Nat) (li : Int) (v3 v6 v7 : Option V) (vs : List V) (tl : Addr), m = left ∧ li = (left : Int) ∧ Heavy ks as (TT : Int) w n (left : Int) ∧ σ = [some (.ref a), some (.int (TT : Int)), some (.ref d), v3, some (.ref wl), some (.int li), v6, v7] ∧ Same Hc Hd ∧ Hd wl = some (.lst (vs ++ [.ref tl])) ∧ Rows (newer H Hd) vs (w.map wv) ∧ newer H Hd tl = some (.tup (wv (n, (TT : Int) - left)))) m' σ' H', fun _ _ h => h, ?_⟩⟩
      have hga := (ok.ag _ haa).1
      have s8 : Same Hd H6 := Same.trans s5 s7
      have hwd6 := s8 _ _ hwd
      have hin : (n, aa.2.1, aa.2.2) ∈ as := by
        rw [← han]
        exact haa
      have hnx := Heavy.next ok.sane hv hin hgt hmx
      refine ⟨_, rfl, _, rfl, p, _, 1, .int aa.2.2, rfl, rfl, SqT.of hp, atI_nat (j := 1) rfl, _, _, rfl, rfl, ?_⟩
      have el : (left : Int) - aa.2.2 = ((left - aa.2.2.toNat : Nat) : Int) := by omega
      have hnx' := hnx
      rw [el] at hnx'
      refine ⟨_, rfl, .inl ⟨rfl, _, SqL.of hwd6⟩, _, rfl, p, _, 0, .str aa.2.1, rfl, rfl, SqT.of hp, atI_nat (j := 0) rfl, _, rfl, _, rfl, _, _, rfl, rfl, (by show 2 ≤ sizeLine; decide), fun t6 ht6 => ⟨wl, vs ++ [.ref tl], _, rfl, rfl, by rw [upd_ne (ne_of_none hwd6 ht6)]; exact hwd6, ?_, ?_⟩⟩
      · have e1 := hvr.length
        rw [List.length_map] at e1
        rw [List.length_append, List.length_singleton, sizeLine_eq]
        omega
      · have hwn : Hc wl = none := Same.free (same_upd ht0) hwl
        have st6 : Hc t6 = none := Same.free (Same.trans sd s8) ht6
        have s9 : Same Hc (L2.upd (L2.upd H6 t6 (.tup [.str aa.2.1, .int ((TT : Int) - ((left : Int) - aa.2.2))])) wl (.lst (vs ++ [.ref tl] ++ [.ref t6]))) := same_up (same_up (Same.trans sd s8) st6) hwn
        have hrw6 : Rows (newer H H6) vs (w.map wv) := Rows.keeps hvr (newer_same s8)
        have htl6 : newer H H6 tl = some (.tup (wv (n, (TT : Int) - left))) := newer_same s8 _ _ htl
        have hall : Rows (newer H H6) (vs ++ [.ref tl]) ((w ++ [(n, (TT : Int) - left)]).map wv) := by
          rw [List.map_append]
          exact hrw6.snoc ⟨tl, rfl, htl6⟩
        refine ⟨left - aa.2.2.toNat, by omega, w ++ [(n, (TT : Int) - left)], aa.2.1, left - aa.2.2.toNat, (left : Int) - aa.2.2, _, _, _, vs ++ [.ref tl], t6, rfl, el, hnx', rfl, s9, upd_same, ?_, ?_⟩
        · exact hall.mono fun v xs ⟨b, eb, hb⟩ => ⟨b, eb, newer_at (newer_none hb) (by
            have hb3 := newer_sub _ _ _ _ hb
            rw [upd_ne (ne_of hb3 hwd6 (by intro z; cases z)), upd_ne (ne_of_none hb3 ht6)]
            exact hb3)⟩
        · refine newer_at (Same.free sH st6) ?_
          rw [upd_ne (ne_of_none hwd6 ht6).symm, ← el]
          exact upd_same
end
end WD
/-! demand.py: heavy_run -/
namespace WD
open PySem PySem.Spec PyProof.Rows L2
abbrev sHeavyRun : Stmt := top 27
section
variable {α β γ : Type} {R : α → β → Prop} {S : α → γ → Prop}
theorem All2.mapr {fm : β → γ} : ∀ {l : List α} {m : List β}, All2 R l m → (∀ a b, R a b → S a (fm b)) → All2 S l (m.map fm)
  | _, _, .nil, _ => .nil
  | _, _, .cons h t, q => .cons (q _ _ h) (t.mapr q)
theorem All2.ofmap {fm : β → γ} : ∀ {l : List α} {m : List β}, All2 S l (m.map fm) → All2 (fun a b => S a (fm b)) l m
  | _, [], .nil => .nil
  | _, _ :: _, .cons h t => .cons h t.ofmap
end
theorem sum_len : ∀ {its : List It3} {n : Int}, (∀ x ∈ its, (x.w.length : Int) ≤ n) → (its.map fun x => (x.w.length : Int)).sum ≤ n * its.length
  | [], n, _ => by simp
  | x :: its, n, h => by
    have ih := sum_len (its := its) fun y hy => h y (List.mem_cons_of_mem _ hy)
    have h1 := h x (List.mem_cons_self ..)
    rw [List.map_cons, List.sum_cons, List.length_cons, Int.natCast_succ, Int.mul_add, Int.mul_one]
    omega
/-- Run's making -/
structure RunMk (P : Program) (w : World) (K : PySem.W.Frag) (mg : Str → Option Value) (base : Heap) (C D PT : Addr) : Prop where
  ex : ∃ fI fdI ds, Mk K D fI ∧ FnOk P w K mg base CX0 5 fI fdI ["self", "tasks", "walks", "grain"] (spRInit C D PT) ∧ Vals [V.int 1] ds ∧ Binds K fdI ["self", "tasks", "walks", "grain"] ds
  gl : mg "Run" = some (.ref D)
def It3.tk (x : It3) : Tk := (x.ks, x.as)
def spHeavyRun (C D PT : Addr) : Sp := fun vs H Q _ => ∃ (lt : Addr) (T : Nat) (tks : List Tk), vs = [.ref lt, .int (T : Int)] ∧ LTasks C H lt tks ∧ (∀ x ∈ tks, TaskOk x.1 x.2) ∧ tks.length ≤ 3 ∧ T ≤ 100 ∧ LamX.Tabs [(PT, qL)] H ∧
  ∀ H' a js (its : List It3), LamX.ExtN H H' → LamX.Tabs [(PT, qL)] H' → RunAt D H' a js → its.map It3.tk = tks → js.Perm (rowsV 1 0 its) → (∀ x ∈ its, untilB x.ks 1 (T : Int) x.w = td x.ks x.as (T : Int) ∧ x.w.length ≤ 1000) → Q (.ref a) H'
section
variable {P : Program} {w : World} {K : PySem.W.Frag} {mg : Str → Option Value} {base : Heap}
theorem scHeavyRun : FnScope ["tasks", "ticks", "walks", "task", "kind", "release"] ["tasks", "ticks"] (defScope sHeavyRun) := ⟨rfl, rfl, rfl, by decide +kernel, rfl, by decide +kernel, by decide +kernel⟩
theorem ok_heavyRun {fa C D PT fR : Addr} {fd fdR : FuncData} (F : Fun K "heavy_run" "heavy_run" sHeavyRun fa fd) (T : TaskC K C) (g : Gs mg)
    (G : FnOk P w K mg base CX0 2 fR fdR ["self", "kind"] (spCostOf C)) (m : Meth K C "cost_of" fR) (b : Binds K fdR ["self", "kind"] [])
    (c1 : Cal P w K mg base "heavy_walk" 5 ["task", "ticks"] (spHeavyWalk C)) (MR : RunMk P w K mg base C D PT) : FnOk P w K mg base CX0 7 fa fd ["tasks", "ticks"] (spHeavyRun C D PT) := by
  refine F.ok scHeavyRun (fun vs H Q E h => ?_) (fun cdv A outer s H vs Q E hr h => ?_)
  · obtain ⟨lt, T, tks, rfl, _⟩ := h
    rfl
  · obtain ⟨lt, TT, tks, rfl, ⟨ts, hts, hta⟩, ok, h3, hTT, hTab, q⟩ := h
    have hr2 : Room 2 _ := hr.mono (by decide)
    have htl : ts.length = tks.length := hta.length
    obtain ⟨fI, fdI, ds, M, FI, vds, bI⟩ := MR.ex
    refine ⟨_, pss_cons (ps_set (i := 2) scHeavyRun.nd rfl (Or.inl rfl) (pe_lst pa_nil))
      (pss_cons (ps_for PassesOwn.never rfl (piL K (pv 0)) (pg_name (i := 3) scHeavyRun.nd rfl (Or.inr rfl))
        (pss_one (ps_expr (pe_bm PySem.F.plainAttrs_list PySem.F.slot_list_append PySem.F.type_list_append mt_append (pv 2) (pa_cons
          (pe_lc (own := [("kind", 4), ("release", 5)]) rfl scHeavyRun.nd (piL K (pc c1 hr (pa_cons (pv 3) (pa_cons (pv 1) pa_nil)))) (blkOk_by (N := ["tasks", "ticks", "walks", "task", "kind", "release"]) (sc := defScope sHeavyRun) (by decide +kernel))
            (fun _ _ _ _ _ => pgT K (n := 2) (pgs_cons (pg_name (i := 4) scHeavyRun.nd rfl (Or.inl rfl)) (pgs_cons (pg_name (i := 5) scHeavyRun.nd rfl (Or.inl rfl)) pgs_nil))) (fun _ _ _ _ _ => pts_nil)
            (fun _ _ _ _ _ => pe_tup (pa_cons (pv 4) (pa_cons (pv 5) (pa_cons (pe_meth (pv 3) T.cl m G hr2 b .nil pass0 (pa_cons (pv 4) pa_nil)) pa_nil))))) pa_nil)))))
      (pss_one (ps_ret (pe_make M FI hr rfl MR.gl bI vds pass0 (pa_cons (pe_callTy (lstS K) (by rfl) g.list (by decide +kernel) (pa_cons (pv 0) pa_nil)) (pa_cons (pv 2) pa_nil)))))), ?_⟩
    refine ⟨(by show 0 ≤ sizeLine; decide), fun wl hwl => ?_⟩
    generalize hH1 : L2.upd H wl (.lst []) = H1
    have s1 : Same H H1 := by rw [← hH1]; exact same_upd hwl
    have hw1 : H1 wl = some (.lst []) := by rw [← hH1]; exact upd_same
    refine ⟨_, rfl, lt, rfl, ⟨_, SqL.of (s1 _ _ hts)⟩, ?_⟩
    have sG : ∀ {Hc : Hp}, Grow wl wl H1 Hc → Same H Hc := fun gr b o hb => gr.keep b o (ne_of_none hb hwl) (ne_of_none hb hwl) (s1 _ _ hb)
    refine for_it (walk_list (K := K) (a := lt) (xs := ts)) (fun i σ Hc => (∃ v3 v4 v5 : Option V, σ = [some (.ref lt), some (.int (TT : Int)), some (.ref wl), v3, v4, v5]) ∧ Grow wl wl H1 Hc ∧ ∃ (vs : List V) (its : List It3), its.map It3.tk = tks.take i ∧ Hc wl = some (.lst vs) ∧
        All2 (fun v (x : It3) => ∃ a, v = V.ref a ∧ LRows (newer H1 Hc) a (x.w.map jv)) vs its ∧ ∀ x ∈ its, WalkOk x.ks x.as 1 x.w ∧ untilB x.ks 1 (TT : Int) x.w = td x.ks x.as (TT : Int) ∧ (x.w.length : Int) ≤ (TT : Int) + 1)
      ⟨⟨_, _, _, rfl⟩, Grow.refl, [], [], rfl, hw1, .nil, fun x hx => by cases hx⟩ (fun i σ Hc _ h => SqL.of (sG h.2.1 _ _ hts)) ?_ ?_
    · rintro i x σ _ Hc hi ⟨⟨v3, v4, v5, rfl⟩, gr, vs, its, hit, hvs, hall, hok⟩ ⟨rfl, hx⟩
      obtain ⟨tk, htk, a, rfl, hT⟩ := hta.get hx
      have okk := ok tk (List.mem_of_getElem? htk)
      have sc := sG gr
      refine ⟨_, rfl, .inl ⟨rfl, _, SqL.of hvs⟩, ?_⟩
      refine ⟨_, rfl, _, rfl, a, TT, tk.1, tk.2, rfl, hT.keeps sc, okk, (by omega), fun H2 l ww s2 hl hwo hwu hwlen => ?_⟩
      obtain ⟨us, hus, hur⟩ := hl.keeps (newer_sub _ _)
      have hul : us.length = ww.length := by rw [hur.length, List.length_map]
      refine ⟨l, rfl, ⟨_, SqL.of hus⟩, fun E2 hE2 => ?_⟩
      refine lcy (walk_list (K := K) (a := l) (xs := us)) (fun j Hd => Same H2 Hd ∧ ∃ vs, Hd E2 = some (.lst vs) ∧ Rows (newer Hc Hd) vs (((ww.take j).map (full tk.1)).map jv)) ⟨same_upd hE2, [], upd_same, .nil⟩ (fun j Hd _ h => SqL.of (h.1 _ _ hus)) ?_ ?_
      · rintro j x _ Hd hj ⟨sd, vs2, hE, hrw⟩ ⟨rfl, hx⟩
        obtain ⟨xs, hxs, t, rfl, ht⟩ := hur.get hx
        rw [List.getElem?_map] at hxs
        obtain ⟨jb, hjb, rfl⟩ := Option.map_eq_some_iff.mp hxs
        have hjn := (hwo.job (full tk.1 jb) (List.mem_map.mpr ⟨jb, List.mem_of_getElem? hjb, rfl⟩)).1
        obtain ⟨k, hk, ek⟩ := List.mem_map.mp hjn
        have ek : k.1 = jb.1 := ek
        have sHd : Same H Hd := Same.trans sc (Same.trans s2 sd)
        obtain ⟨dx, nm, lk, la, ha, _⟩ := hT.keeps sHd
        refine ⟨t, _, rfl, SqT.of (sd _ _ ht), rfl, _, _, rfl, _, _, rfl, rfl, rfl, ?_⟩
        refine ⟨_, rfl, _, rfl, _, rfl, a, dx, _, rfl, ha, tk_noC _ _ _, _, rfl, a, k, tk.1, tk.2, (by rw [ek]; rfl), hT.keeps sHd, okk.nd, hk, (by show 3 ≤ sizeLine; decide), fun t3 ht3 => ?_⟩
        have ht3c : Hc t3 = none := Same.free (Same.trans s2 sd) ht3
        refine ⟨vs2, by rw [upd_ne (ne_of_none hE ht3)]; exact hE, ?_, same_up (same_up sd (Same.free sd ht3)) hE2, _, upd_same, ?_⟩
        · have e1 := hrw.length
          rw [List.length_map, List.length_map, List.length_take] at e1
          rw [sizeLine_eq]
          omega
        · rw [take_snoc hjb, List.map_append, List.map_append]
          have hc : costOf tk.1 jb.1 = k.2.1 := by rw [← ek]; exact costOf_of okk.nd hk
          have hx := rows_app (xs := jv (full tk.1 jb)) hrw hE ht3 ht3c
          unfold full jv at hx
          simp only [hc] at hx
          unfold full jv
          simp only [List.map_cons, List.map_nil, hc]
          exact hx
      rintro Hd ⟨sd, vs2, hE, hrw⟩
      rw [hul, List.take_length] at hrw
      have hvd : Hd wl = some (.lst vs) := sd _ _ (s2 _ _ hvs)
      have s12 : Same Hc Hd := Same.trans s2 sd
      have hE2n : Hc E2 = none := Same.free s2 hE2
      have e0 : vs.length = its.length := hall.length
      have e1 : its.length = (tks.take i).length := by rw [← hit, List.length_map]
      refine ⟨wl, vs, _, rfl, rfl, hvd, ?_, ⟨_, _, _, rfl⟩, (gr.trans (Grow.of s12)).upd (.inr (.inl rfl)), _, its ++ [⟨ww.map (full tk.1), tk.1, tk.2⟩], ?_, upd_same, ?_, fun x hx => ?_⟩
      · rw [List.length_take] at e1
        rw [sizeLine_eq]
        omega
      · rw [List.map_append, hit, take_snoc htk]
        rfl
      · have n1 : Same (newer H1 Hc) (newer H1 (L2.upd Hd wl (.lst (vs ++ [.ref E2])))) := Same.trans (newer_same s12) (newer_upd (ne_none hw1))
        refine (hall.mono fun v x ⟨a, e, hr⟩ => ⟨a, e, hr.keeps n1⟩).snoc ⟨E2, rfl, ?_⟩
        have hlr : LRows (newer Hc Hd) E2 ((ww.map (full tk.1)).map jv) := ⟨vs2, newer_at hE2n hE, hrw⟩
        exact (hlr.keeps (newer_dom gr.dom)).keeps (newer_upd (ne_none hw1))
      · rcases List.mem_append.mp hx with h | h
        · exact hok x h
        · have e : x = ⟨ww.map (full tk.1), tk.1, tk.2⟩ := by simpa using h
          subst e
          exact ⟨hwo, hwu, by rw [List.length_map]; exact hwlen⟩
    · rintro σ Hc ⟨⟨v3, v4, v5, rfl⟩, gr, vs, its, hit, hvs, hall, hok⟩
      rw [htl, List.take_length] at hit
      have sc := sG gr
      refine ⟨_, rfl, lt, ts, rfl, .inl (SqL.of (sc _ _ hts)), fun l2 hl2 => ⟨_, rfl, fun x dx hx hdx hne => ?_⟩⟩
      have s2 : Same Hc (L2.upd Hc l2 (.lst ts)) := same_upd hl2
      have sH2 : Same H (L2.upd Hc l2 (.lst ts)) := Same.trans sc s2
      subst hit
      have hil : its.length ≤ 3 := by rw [List.length_map] at h3; exact h3
      refine ⟨x, dx, l2, wl, 1, its, _, rfl, rfl, hx, hdx, hne, ⟨⟨ts, upd_same, ?_⟩, ⟨vs, s2 _ _ hvs, ?_⟩, fun y hy => ⟨?_, (hok y hy).1⟩, ?_, by omega, by omega, by omega⟩, hTab.ext sH2, fun H' js eN T' hp hR => ⟨rfl, ?_⟩⟩
      · exact hta.ofmap.mono fun v y ⟨a, e, h⟩ => ⟨a, e, h.keeps sH2⟩
      · exact hall.mapr fun v y ⟨a, e, h⟩ => ⟨a, e, (h.keeps (newer_sub _ _)).keeps s2⟩
      · exact ok (It3.tk y) (List.mem_map.mpr ⟨y, hy, rfl⟩)
      · have e1 := sum_len (n := (TT : Int) + 1) fun y hy => (hok y hy).2.2
        have e2 : ((TT : Int) + 1) * (its.length : Int) ≤ ((TT : Int) + 1) * 3 := Int.mul_le_mul_of_nonneg_left (by omega) (by omega)
        omega
      · exact q H' x js its (LamX.ExtN.trans (LamX.ExtN.of sH2) eN) T' hR rfl hp fun y hy => ⟨(hok y hy).2.1, by have := (hok y hy).2.2; omega⟩
end
end WD
/-! the law's pool -/
namespace WD
open PySem PySem.Spec PyProof.Rows L2
abbrev sPool : Stmt := top 43
abbrev sDraw : Stmt := top 44
structure Pool (H : Hp) (p q : Addr) (n : Nat) : Prop where
  ex : ∃ (cs : List Int) (seed : Int) (c : Nat), H p = some (.lst [.ref q, .int seed, .int (c : Int)]) ∧ H q = some (.lst (cs.map V.int)) ∧ (∀ x ∈ cs, 0 ≤ x) ∧ 0 ≤ seed ∧ seed < 2147483647 ∧ c ≤ n ∧ cs.length ≤ 63
  ne : p ≠ q
def spPool (K : PySem.W.Frag) : Sp := fun vs H Q _ => ∃ (a : Addr) (ns : List Int), vs = [.ref a] ∧ SqL K H a (ns.map V.int) ∧ ns.length ≤ 63 ∧ ∀ H' p q, Same H H' → H p = none → H q = none → Pool H' p q 0 → Q (.ref p) H'
def spDraw : Sp := fun vs H Q _ => ∃ (p q : Addr) (n : Nat) (lim : Int), vs = [.ref p, .int lim] ∧ Pool H p q n ∧ n < 1000000000 ∧ 1 ≤ lim ∧ lim < 1000000000 ∧ ∀ v H', 0 ≤ v → v < lim → Grow p q H H' → Pool H' p q (n + 1) → Q (.int v) H'
theorem sq_same {K : PySem.W.Frag} {H H' : Hp} {a : Addr} {xs : List V} (h : SqL K H a xs) (s : Same H H') : SqL K H' a xs :=
  h.elim (fun h => .inl (h.elim (fun h => .inl (s _ _ h)) fun ⟨o, h⟩ => .inr ⟨o, s _ _ h⟩)) fun h => .inr h
theorem dp_ints {K : PySem.W.Frag} {H : Hp} : ∀ ns : List Int, DpAll K H (ns.map V.int) (ns.map PyData.int)
  | [] => .nil
  | n :: ns => .cons (.int n) (dp_ints ns)
theorem ints_lay : ∀ ns : List Int, PyData.canLayAll0 (ns.map PyData.int) = true
  | [] => by simp [PyData.canLayAll0]
  | n :: ns => by simp [PyData.canLayAll0, PyData.canLay0, ints_lay ns]
theorem ints_shaped (ns : List Int) : SeqAt.shaped (.list (ns.map PyData.int)) = true := by
  have h2 : PyData.depth (.list (ns.map PyData.int)) ≤ 64 := by
    simp only [PyData.depth, depth_ints]
    omega
  show (PyData.canLay0 (.list (ns.map PyData.int)) && decide (PyData.depth (.list (ns.map PyData.int)) ≤ 64)) = true
  rw [Bool.and_eq_true]
  exact ⟨by simp only [PyData.canLay0, ints_lay], decide_eq_true h2⟩
theorem ints_eqv_nil : ∀ ns : List Int, PyData.eqv (.list (ns.map PyData.int)) (.list []) = decide (ns = [])
  | [] => by simp [PyData.eqv, PyData.eqvAll]
  | n :: ns => by simp [PyData.eqv, PyData.eqvAll]
section
variable {P : Program} {w : World} {K : PySem.W.Frag} {mg : Str → Option Value} {base : Heap}
theorem scPool : FnScope ["_law_script", "_law_seed", "_law_cell"] ["_law_script"] (defScope sPool) := ⟨rfl, rfl, rfl, by decide +kernel, rfl, by decide +kernel, by decide +kernel⟩
theorem ok_pool {fa : Addr} {fd : FuncData} (F : Fun K "_law_pool" "_law_pool" sPool fa fd) (g : Gs mg) : FnOk P w K mg base CX0 1 fa fd ["_law_script"] (spPool K) := by
  refine F.ok scPool (fun vs H Q E h => ?_) (fun cdv A outer s H vs Q E hr h => ?_)
  · obtain ⟨a, ns, rfl, _⟩ := h
    rfl
  · obtain ⟨a, ns, rfl, hs, hn, k⟩ := h
    refine ⟨_, pss_cons (ps_set (i := 1) scPool.nd rfl (Or.inl rfl) pe_int)
      (pss_cons (ps_for PassesOwn.never rfl (piL K (pv 0)) (pg_name (i := 2) scPool.nd rfl (Or.inl rfl))
        (pss_one (ps_set (i := 1) scPool.nd rfl (Or.inl rfl) (pe_op op_mod (pe_callTy call_int1 (by rfl) g.int (by decide +kernel) (pa_cons (pe_op op_add (pe_op op_mul (pv 1) pe_int) (pv 2)) pa_nil)) pe_int))))
      (pss_one (ps_ret (pe_lst (pa_cons (pe_lc (own := [("_law_cell", 2)]) rfl scPool.nd (piL K (pv 0)) (blkOk_by (N := ["_law_script", "_law_seed", "_law_cell"]) (sc := defScope sPool) (by decide +kernel))
          (fun _ _ _ _ _ => pg_name (i := 2) scPool.nd rfl (Or.inl rfl)) (fun _ _ _ _ _ => pts_one (pt_cmpR op_ge (pv 2) (pe_op op_pow pe_int pe_int) (nomark _))) (fun _ _ _ _ _ => pv 2)) (pa_cons (pv 1) (pa_cons pe_int pa_nil))))))), ?_⟩
    refine ⟨_, rfl, a, rfl, ⟨_, hs⟩, ?_⟩
    refine for_it (walk_list (K := K) (a := a) (xs := ns.map V.int)) (fun i σ Hc => Hc = H ∧ ∃ (seed : Int) (v2 : Option V), σ = [some (.ref a), some (.int seed), v2] ∧ 0 ≤ seed ∧ seed < 2147483647)
      ⟨rfl, 1, none, rfl, by decide, by decide⟩ (fun i σ Hc _ h => by rw [h.1]; exact hs) ?_ ?_
    · rintro i x σ _ Hc hi ⟨rfl, seed, v2, rfl, h0, h1⟩ ⟨rfl, hx⟩
      rw [List.getElem?_map] at hx
      obtain ⟨z, hz, rfl⟩ := Option.map_eq_some_iff.mp hx
      refine ⟨_, rfl, _, _, rfl, rfl, .inl ⟨by omega, by omega⟩, _, rfl, _, _, rfl, rfl, .inl ⟨_, rfl, _, _, rfl, rfl, (by show (0 : Int) < 2147483647; decide), rfl, _, _, rfl, ?_, ?_⟩⟩
      · exact Int.emod_nonneg _ (by decide)
      · exact Int.emod_lt_of_pos _ (by decide)
    · rintro σ Hc ⟨rfl, seed, v2, rfl, h0, h1⟩
      refine ⟨_, rfl, a, rfl, ⟨_, hs⟩, fun q hq => ?_⟩
      refine lc_it (walk_list (K := K) (a := a) (xs := ns.map V.int)) (fun i Hd => Same Hc Hd ∧ Hd q = some (.lst (((ns.take i).filter fun z => decide (10 ^ 18 ≤ z)).map V.int))) ⟨same_upd hq, upd_same⟩ (fun i Hd _ h => sq_same hs h.1) ?_ ?_
      · rintro i x _ Hd hi ⟨sd, hd⟩ ⟨rfl, hx⟩
        rw [List.getElem?_map] at hx
        obtain ⟨z, hz, rfl⟩ := Option.map_eq_some_iff.mp hx
        refine ⟨rfl, _, rfl, _, _, rfl, rfl, ⟨by decide, by decide, by decide⟩, _, _, rfl, rfl, decide ((10 : Int) ^ 18 ≤ z), rfl, ?_⟩
        by_cases hc : (10 : Int) ^ 18 ≤ z
        · refine ifT (decide_eq_true hc) ⟨_, rfl, _, hd, ?_, same_up sd hq, ?_⟩
          · have e1 := List.length_filter_le (fun z : Int => decide (10 ^ 18 ≤ z)) (ns.take i)
            rw [List.length_take] at e1
            rw [List.length_map, sizeLine_eq]
            omega
          · rw [upd_same, take_snoc hz, List.filter_append, List.filter_cons_of_pos (by simpa using hc), List.map_append]
            rfl
        · refine ifF (decide_eq_false hc) ⟨sd, ?_⟩
          rw [take_snoc hz, List.filter_append, List.filter_cons_of_neg (by simpa using hc), List.filter_nil, List.append_nil]
          exact hd
      rintro Hd ⟨sd, hd⟩
      rw [List.length_map, List.take_length] at hd
      refine ⟨_, rfl, (by show 3 ≤ sizeLine; decide), fun p hp => ?_⟩
      refine k _ p q (same_up sd (Same.free sd hp)) (Same.free sd hp) hq ⟨⟨_, seed, 0, upd_same, by rw [upd_ne (ne_of_none hd hp)]; exact hd, fun x hx => ?_, h0, h1, Nat.le_refl _, ?_⟩, fun z => ?_⟩
      · have h2 := (List.mem_filter.mp hx).2
        have h3 : (10 : Int) ^ 18 ≤ x := by simpa using h2
        have h4 : (0 : Int) ≤ 10 ^ 18 := by decide
        omega
      · exact Nat.le_trans (List.length_filter_le _ _) hn
      · subst z
        rw [hp] at hd
        cases hd
end
end WD
/-! the law's draw -/
namespace WD
open PySem PySem.Spec PyProof.Rows L2
theorem Pool.dp {H : Hp} {p q : Addr} {n : Nat} (h : Pool H p q n) : H p ≠ none := by
  obtain ⟨cs, seed, c, h1, _⟩ := h.ex
  exact ne_none h1
theorem Pool.dq {H : Hp} {p q : Addr} {n : Nat} (h : Pool H p q n) : H q ≠ none := by
  obtain ⟨cs, seed, c, _, h1, _⟩ := h.ex
  exact ne_none h1
theorem Pool.le {H : Hp} {p q : Addr} {n m : Nat} (h : Pool H p q n) (l : n ≤ m) : Pool H p q m := by
  obtain ⟨cs, seed, c, h1, h2, h3, h4, h5, h6, h7⟩ := h.ex
  exact ⟨⟨cs, seed, c, h1, h2, h3, h4, h5, Nat.le_trans h6 l, h7⟩, h.ne⟩
theorem Pool.keeps {H H' : Hp} {p q : Addr} {n : Nat} (h : Pool H p q n) (s : Same H H') : Pool H' p q n := by
  obtain ⟨cs, seed, c, h1, h2, h3⟩ := h.ex
  exact ⟨⟨cs, seed, c, s _ _ h1, s _ _ h2, h3⟩, h.ne⟩
theorem ixN0 (n : Nat) : ixN (n + 1) 0 = some 0 := by
  unfold ixN
  rw [if_pos (by decide), if_pos (by omega)]
  rfl
section
variable {P : Program} {w : World} {K : PySem.W.Frag} {mg : Str → Option Value} {base : Heap}
theorem scDraw : FnScope ["_law_pool_here", "_law_limit", "_law_rest", "_law_value", "_law_first", "_law_second"] ["_law_pool_here", "_law_limit"] (defScope sDraw) := ⟨rfl, rfl, rfl, by decide +kernel, rfl, by decide +kernel, by decide +kernel⟩
theorem ok_draw {fa : Addr} {fd : FuncData} (F : Fun K "_law_draw" "_law_draw" sDraw fa fd) (g : Gs mg) : FnOk P w K mg base CX0 1 fa fd ["_law_pool_here", "_law_limit"] spDraw := by
  refine F.ok scDraw (fun vs H Q E h => ?_) (fun cdv A outer s H vs Q E hr h => ?_)
  · obtain ⟨p, q, n, lim, rfl, _⟩ := h
    rfl
  · obtain ⟨p, q, n, lim, rfl, hP, hn, hl1, hl2, k⟩ := h
    have hu : _ := Nat.lt_of_succ_lt (room65 hr)
    refine ⟨_, pss_cons (ps_set (i := 2) scDraw.nd rfl (Or.inl rfl) (pe_ix (ixL K) (pv 0) pe_int (fun _ _ => rfl)))
      (pss_cons (ps_if (pt_cmpR (op_neD hu) (pv 2) (pe_lst pa_nil) (nomark _))
        (pss_cons (ps_set (i := 3) scDraw.nd rfl (Or.inl rfl) (pe_op op_mod (pe_callTy call_int1 (by rfl) g.int (by decide +kernel) (pa_cons (pe_ix (ixL K) (pv 2) pe_int (fun _ _ => rfl)) pa_nil)) (pv 1)))
        (pss_cons (ps_asg (pe_op op_fdiv (pe_ix (ixL K) (pv 2) pe_int (fun _ _ => rfl)) (pv 1)) (pg_sub (pv 2) pe_int set_list))
        (pss_cons (ps_if (pt_cmpR op_eq (pe_ix (ixL K) (pv 2) pe_int (fun _ _ => rfl)) pe_int (nomark _)) (pss_one (ps_expr (pe_bm PySem.F.plainAttrs_list PySem.F.slot_list_pop PySem.F.type_list_pop mt_popAt (pv 2) (pa_cons pe_int pa_nil)))) pss_nil)
        (pss_one (ps_ret (pv 3)))))) pss_nil)
      (pss_cons (ps_asg (pe_op op_add (pe_ix (ixL K) (pv 0) pe_int (fun _ _ => rfl)) pe_int) (pg_sub (pv 0) pe_int set_list))
      (pss_cons (ps_set (i := 4) scDraw.nd rfl (Or.inl rfl) (pe_op op_mod (pe_op op_pow (pe_callTy call_int1 (by rfl) g.int (by decide +kernel) (pa_cons (pe_op op_add (pe_ix (ixL K) (pv 0) pe_int (fun _ _ => rfl)) (pe_op op_mul pe_int (pe_ix (ixL K) (pv 0) pe_int (fun _ _ => rfl)))) pa_nil)) pe_int) pe_int))
      (pss_cons (ps_set (i := 5) scDraw.nd rfl (Or.inl rfl) (pe_op op_mod (pe_callTy call_int1 (by rfl) g.int (by decide +kernel) (pa_cons (pe_op op_add (pe_op op_mul (pv 4) pe_int) (pe_ix (ixL K) (pv 0) pe_int (fun _ _ => rfl))) pa_nil)) pe_int))
      (pss_one (ps_ret (pe_op op_mod (pe_op op_fdiv (pe_callTy call_int1 (by rfl) g.int (by decide +kernel) (pa_cons (pv 5) pa_nil)) pe_int) (pv 1)))))))), ?_⟩
    obtain ⟨cs, seed, c, hp, hq, hcs, hs0, hs1, hc, h63⟩ := hP.ex
    have hne := hP.ne
    refine ⟨_, rfl, p, _, 0, .ref q, rfl, rfl, SqL.of hp, atI_nat (j := 0) rfl, ?_⟩
    refine ⟨_, rfl, (by show 0 ≤ sizeLine; decide), fun e he => ⟨.list (cs.map PyData.int), .list [], ?_, ?_, ints_shaped cs, ints_shaped [], !decide (cs = []), by rw [ints_eqv_nil], ?_⟩⟩
    · exact Dp.lst (SqL.of (by rw [upd_ne (ne_of_none hq he)]; exact hq)) (dp_ints cs)
    · exact Dp.lst (SqL.of upd_same) .nil
    have s1 : Same H (L2.upd H e (.lst [])) := same_upd he
    cases cs with
    | cons x cs =>
      refine ifT rfl ?_
      have hx0 := hcs x (List.mem_cons_self ..)
      have hq1 := s1 _ _ hq
      have hdiv : 0 ≤ x / lim := Int.ediv_nonneg hx0 (by omega)
      have hcs' : ∀ y ∈ cs, 0 ≤ y := fun y hy => hcs y (List.mem_cons_of_mem _ hy)
      have hcl : cs.length + 1 ≤ 63 := h63
      refine ⟨_, rfl, q, _, 0, .int x, rfl, rfl, SqL.of hq1, atI_nat (j := 0) rfl, .inl ⟨_, rfl, _, rfl, _, _, rfl, rfl, (by show 0 < lim; omega), ?_⟩⟩
      refine ⟨_, rfl, q, _, 0, .int x, rfl, rfl, SqL.of hq1, atI_nat (j := 0) rfl, _, rfl, _, _, rfl, rfl, ⟨by omega, by omega⟩, _, rfl, q, _, 0, 0, rfl, rfl, hq1, ixN0 _, ?_⟩
      generalize hH2 : L2.upd (L2.upd H e (.lst [])) q (.lst (((x :: cs).map V.int).set 0 (.int (x / lim)))) = H2
      have hq2 : H2 q = some (.lst ((x / lim :: cs).map V.int)) := by
        rw [← hH2, upd_same]
        rfl
      have hp2 : H2 p = some (.lst [.ref q, .int seed, .int (c : Int)]) := by
        rw [← hH2, upd_ne hne]
        exact s1 _ _ hp
      have g2 : Grow p q H H2 := by rw [← hH2]; exact (Grow.of s1).upd (.inr (.inr rfl))
      refine ⟨_, rfl, q, _, 0, .int (x / lim), rfl, rfl, SqL.of hq2, atI_nat (j := 0) rfl, rfl, _, rfl, ?_⟩
      by_cases hz : x / lim = 0
      · refine ifT (decide_eq_true (by rw [hz])) ?_
        refine ⟨_, rfl, .inl ⟨rfl, _, SqL.of hq2⟩, q, _, 0, 0, _, rfl, rfl, hq2, by decide, by decide, ?_, rfl, ?_⟩
        · unfold seqIndex?
          simp
        · refine ⟨_, rfl, k _ _ (Int.emod_nonneg _ (by omega)) (Int.emod_lt_of_pos _ (by omega)) (g2.upd (.inr (.inr rfl))) ⟨⟨cs, seed, c, by rw [upd_ne hne]; exact hp2, upd_same, hcs', hs0, hs1, by omega, by omega⟩, hne⟩⟩
      · refine ifF (decide_eq_false (fun z => hz (by injection z))) ?_
        refine ⟨_, rfl, k _ _ (Int.emod_nonneg _ (by omega)) (Int.emod_lt_of_pos _ (by omega)) g2 ⟨⟨x / lim :: cs, seed, c, hp2, hq2, fun y hy => ?_, hs0, hs1, by omega, hcl⟩, hne⟩⟩
        rcases List.mem_cons.mp hy with h | h
        · rw [h]
          exact hdiv
        · exact hcs' y h
    | nil =>
      refine ifF rfl ?_
      have hp1 := s1 _ _ hp
      refine ⟨_, rfl, p, _, 2, .int (c : Int), rfl, rfl, SqL.of hp1, atI_nat (j := 2) rfl, _, _, rfl, rfl, _, rfl, p, _, 2, 2, rfl, rfl, hp1, rfl, ?_⟩
      generalize hH2 : L2.upd (L2.upd H e (.lst [])) p (.lst ([V.ref q, .int seed, .int (c : Int)].set 2 (.int ((c : Int) + 1)))) = H2
      have hp2 : H2 p = some (.lst [.ref q, .int seed, .int ((c : Int) + 1)]) := by
        rw [← hH2, upd_same]
        rfl
      have hq2 : H2 q = some (.lst (([] : List Int).map V.int)) := by
        rw [← hH2, upd_ne hne.symm]
        exact s1 _ _ hq
      have g2 : Grow p q H H2 := by rw [← hH2]; exact (Grow.of s1).upd (.inr (.inl rfl))
      refine ⟨_, rfl, p, _, 1, .int seed, rfl, rfl, SqL.of hp2, atI_nat (j := 1) rfl, _, rfl, p, _, 2, .int ((c : Int) + 1), rfl, rfl, SqL.of hp2, atI_nat (j := 2) rfl, _, _, rfl, rfl, .inl ⟨by omega, by omega⟩, _, _, rfl, rfl, .inl ⟨_, rfl, _, _, rfl, rfl, ⟨by decide, by decide, ?_⟩, _, _, rfl, rfl, (by show (0 : Int) < 2147483647; decide), ?_⟩⟩
      · show (seed + 7919 * ((c : Int) + 1)).natAbs < 2 ^ 64
        omega
      generalize hfi : (seed + 7919 * ((c : Int) + 1)) ^ (5 : Int).toNat % 2147483647 = fi
      have hf0 : 0 ≤ fi := by rw [← hfi]; exact Int.emod_nonneg _ (by decide)
      have hf1 : fi < 2147483647 := by rw [← hfi]; exact Int.emod_lt_of_pos _ (by decide)
      refine ⟨_, rfl, _, _, rfl, rfl, .inl ⟨by omega, by omega⟩, _, rfl, p, _, 1, .int seed, rfl, rfl, SqL.of hp2, atI_nat (j := 1) rfl, _, _, rfl, rfl, .inl ⟨_, rfl, _, _, rfl, rfl, (by show (0 : Int) < 2147483629; decide), ?_⟩⟩
      refine ⟨_, rfl, .inl ⟨_, rfl, _, _, rfl, rfl, ⟨by decide, by decide⟩, _, rfl, _, _, rfl, rfl, (by show 0 < lim; omega), ?_⟩⟩
      exact k _ _ (Int.emod_nonneg _ (by omega)) (Int.emod_lt_of_pos _ (by omega)) g2 ⟨⟨[], seed, c + 1, by rw [hp2, Int.natCast_succ], hq2, (fun y hy => by cases hy), hs0, hs1, by omega, by decide⟩, hne⟩
end
end WD
/-! the law's names -/
namespace WD
open PySem PySem.Spec PyProof.Rows L2
abbrev sName : Stmt := top 45
abbrev sFresh : Stmt := top 46
abbrev sNear : Stmt := top 47
abbrev sNumber : Stmt := top 48
theorem Pool.upd {H : Hp} {p q a : Addr} {n : Nat} {o : HO} (h : Pool H p q n) (hp : a ≠ p) (hq : a ≠ q) : Pool (L2.upd H a o) p q n := by
  obtain ⟨cs, seed, c, h1, h2, h3⟩ := h.ex
  exact ⟨⟨cs, seed, c, by rw [upd_ne hp.symm]; exact h1, by rw [upd_ne hq.symm]; exact h2, h3⟩, h.ne⟩
theorem ne_dom {H : Hp} {a p : Addr} (h : H a = none) (hp : H p ≠ none) : a ≠ p := fun z => hp (by rw [← z]; exact h)
def SignOk (c : Nat) : Prop := c ∈ letters.cps.toList ∨ c ∈ others.cps.toList
def signs : Str := "abcdefghijklmnopqrstuvwxyz0123456789_"
theorem signs_eq : signs.cps.toList = letters.cps.toList ++ others.cps.toList := by decide +kernel
theorem letters_len : letters.cps.toList.length = 26 := by decide +kernel
theorem others_len : others.cps.toList.length = 11 := by decide +kernel
theorem signs_len : signs.length ≤ sizeLine := by decide +kernel
theorem sign_at {v : Int} (h0 : 0 ≤ v) (h1 : v < 37) : ∃ c, atI signs.cps.toList v = some c ∧ SignOk c := by
  obtain ⟨j, rfl⟩ := Int.eq_ofNat_of_zero_le h0
  have hj : j < signs.cps.toList.length := by rw [signs_eq, List.length_append, letters_len, others_len]; omega
  have hall : ∀ c ∈ signs.cps.toList, SignOk c := fun c hc => by
    rw [signs_eq] at hc
    exact List.mem_append.mp hc
  exact ⟨_, atI_nat (List.getElem?_eq_getElem hj), hall _ (List.getElem_mem hj)⟩
theorem letter_at {v : Int} (h0 : 0 ≤ v) (h1 : v < 26) : ∃ c, atI signs.cps.toList v = some c ∧ c ∈ letters.cps.toList := by
  obtain ⟨j, rfl⟩ := Int.eq_ofNat_of_zero_le h0
  have hj : j < letters.cps.toList.length := by rw [letters_len]; omega
  refine ⟨letters.cps.toList[j], atI_nat ?_, List.getElem_mem hj⟩
  rw [signs_eq, List.getElem?_append_left hj]
  exact List.getElem?_eq_getElem hj
theorem str_len (z : Str) : z.length = z.cps.toList.length := (Array.length_toList).symm
theorem name_of {z : Str} {c0 : Nat} {cs : List Nat} (e : z.cps.toList = c0 :: cs) (h0 : c0 ∈ letters.cps.toList) (hc : ∀ c ∈ cs, SignOk c) (hl : cs.length ≤ 11) : NameOk z := by
  refine ⟨?_, ?_, ⟨c0, by rw [e]; rfl, h0⟩, fun c h => ?_⟩
  · rw [str_len, e, List.length_cons]
    omega
  · rw [str_len, e, List.length_cons]
    omega
  · rw [e] at h
    rcases List.mem_cons.mp h with h | h
    · rw [h]
      exact .inl h0
    · exact hc c h
theorem name_to {z : Str} (h : NameOk z) : ∃ c0 cs, z.cps.toList = c0 :: cs ∧ c0 ∈ letters.cps.toList ∧ (∀ c ∈ cs, SignOk c) ∧ cs.length ≤ 11 := by
  obtain ⟨h1, h2, ⟨c, hc, hl⟩, h4⟩ := h
  cases e : z.cps.toList with
  | nil => rw [e] at hc; cases hc
  | cons c0 cs =>
    rw [e] at hc h4
    have e2 : c0 = c := by simpa using hc
    subst e2
    rw [str_len, e, List.length_cons] at h2
    exact ⟨c0, cs, rfl, hl, fun c h => h4 c (List.mem_cons_of_mem _ h), by omega⟩
theorem joinL_nil : ∀ l : List (List Nat), TL.joinL [] l = l.flatten
  | [] => rfl
  | [p] => by
    show p = p ++ ([] : List (List Nat)).flatten
    simp
  | p :: q :: r => by
    show p ++ ([] ++ TL.joinL [] (q :: r)) = p ++ (q :: r).flatten
    rw [List.nil_append, joinL_nil (q :: r)]
def ch (c : Nat) : Str := ⟨#[c]⟩
theorem flat_ch : ∀ cs : List Nat, ((cs.map ch).map TL.tl).flatten = cs
  | [] => rfl
  | c :: cs => by
    show [c] ++ ((cs.map ch).map TL.tl).flatten = c :: cs
    rw [flat_ch cs]
    rfl
theorem sum_ch : ∀ cs : List Nat, ((cs.map ch).map (·.length)).sum = cs.length
  | [] => rfl
  | c :: cs => by
    show 1 + ((cs.map ch).map (·.length)).sum = cs.length + 1
    rw [sum_ch cs]
    omega
theorem join_ch {a : Str} (ha : TL.tl a = []) (cs : List Nat) : TL.tl (Txt.join a (cs.map ch)) = cs := by
  rw [TL.join_eq, TL.tl_join, ha, joinL_nil, flat_ch]
def spName : Sp := fun vs H Q _ => ∃ (p q : Addr) (n : Nat), vs = [.ref p] ∧ Pool H p q n ∧ n < 900000000 ∧ ∀ z H', NameOk z → Grow p q H H' → Pool H' p q (n + 13) → Q (.str z) H'
def spNumber : Sp := fun vs H Q _ => ∃ (p q : Addr) (n : Nat) (m : Int), vs = [.ref p, .int m] ∧ Pool H p q n ∧ n < 900000000 ∧ 1 ≤ m ∧ m ≤ 1000 ∧ ∀ v H', 1 ≤ v → v ≤ m → Grow p q H H' → Pool H' p q (n + 2) → Q (.int v) H'
section
variable {P : Program} {w : World} {K : PySem.W.Frag} {mg : Str → Option Value} {base : Heap}
theorem scName : FnScope ["_law_pool_here", "_law_signs", "_law_size", "_law_k"] ["_law_pool_here"] (defScope sName) := ⟨rfl, rfl, rfl, by decide +kernel, rfl, by decide +kernel, by decide +kernel⟩
theorem ok_name {fa : Addr} {fd : FuncData} (F : Fun K "_law_name" "_law_name" sName fa fd) (g : Gs mg) (cD : Cal P w K mg base "_law_draw" 1 ["_law_pool_here", "_law_limit"] spDraw) : FnOk P w K mg base CX0 2 fa fd ["_law_pool_here"] spName := by
  refine F.ok scName (fun vs H Q E h => ?_) (fun cdv A outer s H vs Q E hr h => ?_)
  · obtain ⟨p, q, n, rfl, _⟩ := h
    rfl
  · obtain ⟨p, q, n, rfl, hP, hn, k⟩ := h
    refine ⟨_, pss_cons (ps_set (i := 1) scName.nd rfl (Or.inr rfl) pe_str)
      (pss_cons (ps_set (i := 2) scName.nd rfl (Or.inl rfl) (pc cD hr (pa_cons (pv 0) (pa_cons pe_int pa_nil))))
      (pss_one (ps_ret (pe_op op_add_str (pe_ix ix_str (pv 1) (pc cD hr (pa_cons (pv 0) (pa_cons pe_int pa_nil))) (fun _ _ => rfl))
        (pe_bm PySem.F.plainAttrs_str PySem.F.slot_str_join PySem.F.type_str_join mt_join pe_str (pa_cons
          (pe_lc (own := [("_law_k", 3)]) rfl scName.nd (pi_range1 rfl g.range (pa_cons (pv 2) pa_nil)) (blkOk_by (N := ["_law_pool_here", "_law_signs", "_law_size", "_law_k"]) (sc := defScope sName) (by decide +kernel))
            (fun _ _ _ _ _ => pg_name (i := 3) scName.nd rfl (Or.inl rfl)) (fun _ _ _ _ _ => pts_nil) (fun _ _ _ _ _ => pe_ix ix_str (pv 1) (pc cD hr (pa_cons (pv 0) (pa_cons pe_int pa_nil))) (fun _ _ => rfl))) pa_nil)))))), ?_⟩
    refine ⟨_, rfl, p, q, n, 12, rfl, hP, by omega, by decide, by decide, fun v1 H1 a0 a1 g1 P1 => ?_⟩
    refine ⟨_, rfl, _, rfl, p, q, n + 1, 26, rfl, P1, by omega, by decide, by decide, fun v2 H2 b0 b1 g2 P2 => ?_⟩
    obtain ⟨c0, hc0, hl0⟩ := letter_at b0 b1
    refine ⟨_, _, c0, rfl, rfl, signs_len, hc0, rfl, _, rfl, _, rfl, by omega, by omega, fun D hD => ?_⟩
    have nDp := ne_dom hD P2.dp
    have nDq := ne_dom hD P2.dq
    refine lcy walk_range0 (fun i Hc => Grow p q H2 Hc ∧ Pool Hc p q (n + 2 + i) ∧ ∃ cs : List Nat, cs.length = i ∧ (∀ c ∈ cs, SignOk c) ∧ Hc D = some (.lst ((cs.map ch).map V.str)))
      ⟨Grow.of (same_upd hD), P2.keeps (same_upd hD), [], rfl, (fun c h => by cases h), upd_same⟩ (fun _ _ _ _ => True.intro) ?_ ?_
    · rintro i x _ Hc hi ⟨gr, hPc, cs, hcl, hcs, hDc⟩ ⟨rfl, rfl⟩
      refine ⟨rfl, _, rfl, _, rfl, p, q, n + 2 + i, 37, rfl, hPc, by omega, by decide, by decide, fun v H3 d0 d1 g3 P3 => ?_⟩
      obtain ⟨c, hc, hok⟩ := sign_at d0 d1
      refine ⟨_, _, c, rfl, rfl, signs_len, hc, _, g3.keep D _ nDp nDq hDc, ?_, (gr.trans g3).upd (.inl hD), P3.upd nDp nDq, cs ++ [c], ?_, fun c' hc' => ?_, ?_⟩
      · rw [List.length_map, List.length_map, sizeLine_eq]
        omega
      · rw [List.length_append, hcl]
        rfl
      · rcases List.mem_append.mp hc' with h | h
        · exact hcs c' h
        · have e : c' = c := by simpa using h
          rw [e]
          exact hok
      · rw [upd_same, List.map_append, List.map_append]
        rfl
    rintro Hc ⟨gr, hPc, cs, hcl, hcs, hDc⟩
    refine ⟨_, D, cs.map ch, rfl, rfl, .inl (SqL.of hDc), ?_, ?_⟩
    · show ((cs.map ch).map (·.length)).sum + (cs.map ch).length * 0 ≤ 16777216
      rw [sum_ch]
      omega
    have hj : TL.tl (Txt.join ("" : Str) (cs.map ch)) = cs := join_ch rfl cs
    refine ⟨_, _, rfl, rfl, ?_, k _ _ ?_ ((g1.trans g2).trans gr) (hPc.le (by omega))⟩
    · rw [str_len, str_len, sizeLine_eq]
      have e1 : (Txt.join ("" : Str) (cs.map ch)).cps.toList = cs := hj
      rw [e1]
      show 1 + cs.length ≤ 16777216
      omega
    · refine name_of (c0 := c0) (cs := cs) ?_ hl0 hcs (by omega)
      have e2 := TL.tl_append (ch c0) (Txt.join ("" : Str) (cs.map ch))
      rw [hj] at e2
      exact e2
theorem scNumber : FnScope ["_law_pool_here", "_law_most", "_law_manner"] ["_law_pool_here", "_law_most"] (defScope sNumber) := ⟨rfl, rfl, rfl, by decide +kernel, rfl, by decide +kernel, by decide +kernel⟩
theorem ok_number {fa : Addr} {fd : FuncData} (F : Fun K "_law_number" "_law_number" sNumber fa fd) (cD : Cal P w K mg base "_law_draw" 1 ["_law_pool_here", "_law_limit"] spDraw) : FnOk P w K mg base CX0 2 fa fd ["_law_pool_here", "_law_most"] spNumber := by
  refine F.ok scNumber (fun vs H Q E h => ?_) (fun cdv A outer s H vs Q E hr h => ?_)
  · obtain ⟨p, q, n, m, rfl, _⟩ := h
    rfl
  · obtain ⟨p, q, n, m, rfl, hP, hn, hm1, hm2, k⟩ := h
    refine ⟨_, pss_cons (ps_set (i := 2) scNumber.nd rfl (Or.inl rfl) (pc cD hr (pa_cons (pv 0) (pa_cons pe_int pa_nil))))
      (pss_cons (ps_if (pt_cmpR op_eq (pv 2) pe_int (nomark _)) (pss_one (ps_ret pe_int)) pss_nil)
      (pss_cons (ps_if (pt_cmpR op_eq (pv 2) pe_int (nomark _)) (pss_one (ps_ret (pv 1))) pss_nil)
      (pss_one (ps_ret (pe_op op_add pe_int (pc cD hr (pa_cons (pv 0) (pa_cons (pv 1) pa_nil)))))))), ?_⟩
    refine ⟨_, rfl, p, q, n, 4, rfl, hP, by omega, by decide, by decide, fun v1 H1 a0 a1 g1 P1 => ?_⟩
    refine ⟨_, rfl, rfl, _, rfl, ?_⟩
    by_cases h0 : v1 = 0
    · refine ifT (decide_eq_true (by rw [h0])) ?_
      exact k 1 H1 (by decide) hm1 g1 (P1.le (by omega))
    refine ifF (decide_eq_false (fun z => h0 (by injection z))) ?_
    refine ⟨_, rfl, rfl, _, rfl, ?_⟩
    by_cases h1 : v1 = 1
    · refine ifT (decide_eq_true (by rw [h1])) ?_
      exact ⟨_, rfl, k m H1 hm1 (Int.le_refl _) g1 (P1.le (by omega))⟩
    refine ifF (decide_eq_false (fun z => h1 (by injection z))) ?_
    refine ⟨_, rfl, _, rfl, p, q, n + 1, m, rfl, P1, by omega, hm1, by omega, fun v2 H2 b0 b1 g2 P2 => ?_⟩
    exact ⟨_, _, rfl, rfl, k _ H2 (by omega) (by omega) (g1.trans g2) P2⟩
end
end WD
/-! the law's names that differ -/
namespace WD
open PySem PySem.Spec PyProof.Rows L2
theorem nd_len {α : Type} [DecidableEq α] : ∀ {l m : List α}, l.Nodup → (∀ x ∈ l, x ∈ m) → l.length ≤ m.length
  | [], _, _, _ => Nat.zero_le _
  | x :: l, m, h, hs => by
    obtain ⟨h1, h2⟩ := List.nodup_cons.mp h
    have hx := hs x (List.mem_cons_self ..)
    have ih := nd_len (l := l) (m := m.erase x) h2 fun y hy => (List.mem_erase_of_ne (fun z => h1 (by rw [← z]; exact hy))).mpr (hs y (List.mem_cons_of_mem _ hy))
    rw [List.length_erase_of_mem hx] at ih
    have := List.length_pos_of_mem hx
    rw [List.length_cons]
    omega
theorem tl_to (z : Str) (k : Nat) : TL.tl (cutS z none (some (k : Int))) = (TL.tl z).take k := by
  show (z.cps.toList.drop (HT.sIx z.length 0 none)).take (HT.sIx z.length z.length (some (k : Int)) - HT.sIx z.length 0 none) = z.cps.toList.take k
  rw [HT.sIx_nat, HT.sIx_none, List.drop_zero, Nat.sub_zero, str_len]
  by_cases h : k ≤ z.cps.toList.length
  · rw [Nat.min_eq_left h]
  · rw [Nat.min_eq_right (by omega), List.take_of_length_le (Nat.le_refl _), List.take_of_length_le (by omega)]
theorem tl_from (z : Str) (k : Nat) : TL.tl (cutS z (some (k : Int)) none) = (TL.tl z).drop k := by
  show (z.cps.toList.drop (HT.sIx z.length 0 (some (k : Int)))).take (HT.sIx z.length z.length none - HT.sIx z.length 0 (some (k : Int))) = z.cps.toList.drop k
  rw [HT.sIx_nat, HT.sIx_none, str_len]
  by_cases h : k ≤ z.cps.toList.length
  · rw [Nat.min_eq_left h]
    exact List.take_of_length_le (by rw [List.length_drop]; exact Nat.le_refl _)
  · rw [Nat.min_eq_right (by omega), List.drop_of_length_le (Nat.le_refl _), List.drop_of_length_le (by omega), List.take_nil]
def cand (z : Str) (c : Nat) : Str := cutS z none (some 11) ++ ch c
theorem cand_tl (z : Str) (c : Nat) : TL.tl (cand z c) = (TL.tl z).take 11 ++ [c] := by
  unfold cand
  rw [TL.tl_append]
  have e := tl_to z 11
  exact congrArg (fun l => l ++ [c]) e
theorem cand_ok {z : Str} {c : Nat} (h : NameOk z) (hc : SignOk c) : NameOk (cand z c) := by
  obtain ⟨c0, cs, e, h0, h1, h2⟩ := name_to h
  have e' : TL.tl z = c0 :: cs := e
  have e2 := cand_tl z c
  rw [e'] at e2
  refine name_of (c0 := c0) (cs := cs.take 10 ++ [c]) e2 h0 (fun d hd => ?_) ?_
  · rcases List.mem_append.mp hd with q | q
    · exact h1 d (List.mem_of_mem_take q)
    · have e3 : d = c := by simpa using q
      rw [e3]
      exact hc
  · rw [List.length_append, List.length_take, List.length_singleton]
    omega
theorem cand_inj {z : Str} {c d : Nat} (h : cand z c = cand z d) : c = d := by
  have e := congrArg TL.tl h
  rw [cand_tl, cand_tl] at e
  have := List.append_cancel_left e
  simpa using this
def mid (z : Str) (j c : Nat) : Str := cutS (cutS z none (some ((1 + j : Nat) : Int)) ++ ch c ++ cutS z (some ((1 + j + 1 : Nat) : Int)) none) none (some 12)
theorem mid_ok {z : Str} {j c : Nat} (h : NameOk z) (hc : SignOk c) : NameOk (mid z j c) := by
  obtain ⟨c0, cs, e, h0, h1, h2⟩ := name_to h
  have e' : TL.tl z = c0 :: cs := e
  have e2 : TL.tl (mid z j c) = (((TL.tl z).take (1 + j) ++ [c]) ++ (TL.tl z).drop (1 + j + 1)).take 12 := by
    unfold mid
    have e3 := tl_to (cutS z none (some ((1 + j : Nat) : Int)) ++ ch c ++ cutS z (some ((1 + j + 1 : Nat) : Int)) none) 12
    refine e3.trans ?_
    rw [TL.tl_append, TL.tl_append, tl_to, tl_from]
    rfl
  have e4 : TL.tl (mid z j c) = c0 :: (((cs.take j ++ [c]) ++ cs.drop (j + 1)).take 11) := by
    rw [e2, e']
    have h1 : 1 + j = j + 1 := by omega
    rw [h1]
    rfl
  refine name_of e4 h0 (fun d hd => ?_) ?_
  · have hd' := List.mem_of_mem_take hd
    rcases List.mem_append.mp hd' with q | q
    · rcases List.mem_append.mp q with q | q
      · exact h1 d (List.mem_of_mem_take q)
      · have e3 : d = c := by simpa using q
        rw [e3]
        exact hc
    · exact h1 d (List.mem_of_mem_drop q)
  · rw [List.length_take]
    omega
def dg : Str := "01234"
theorem dg_eq : dg.cps.toList = [48, 49, 50, 51, 52] := by decide +kernel
theorem dg_ok : ∀ c ∈ dg.cps.toList, SignOk c := by
  have h : ∀ c ∈ dg.cps.toList, c ∈ others.cps.toList := by decide +kernel
  exact fun c hc => .inr (h c hc)
theorem fresh_ex {z : Str} {ns : List Str} (hl : ns.length ≤ 4) : (dg.cps.toList.map (cand z)).filter (fun x => decide (x ∉ ns)) ≠ [] := by
  intro e
  have h1 : (dg.cps.toList.map (cand z)).Nodup := by
    rw [dg_eq]
    refine List.Pairwise.map (R := (· ≠ ·)) _ (fun a b hab z' => hab (cand_inj z')) ?_
    decide
  have h2 := nd_len (m := ns) h1 fun x hx => by
    by_cases hn : x ∈ ns
    · exact hn
    · have : x ∈ (dg.cps.toList.map (cand z)).filter (fun x => decide (x ∉ ns)) := List.mem_filter.mpr ⟨hx, decide_eq_true hn⟩
      rw [e] at this
      cases this
  rw [List.length_map, dg_eq] at h2
  simp only [List.length_cons, List.length_nil] at h2
  omega
theorem name_small {z : Str} (h : NameOk z) : z.length ≤ sizeLine := by
  have := h.2.1
  rw [sizeLine_eq]
  omega
theorem cut_len (z : Str) (k : Nat) : (cutS z none (some (k : Int))).length ≤ k := by
  rw [str_len]
  have e := tl_to z k
  have e' : (cutS z none (some (k : Int))).cps.toList = (TL.tl z).take k := e
  rw [e', List.length_take]
  omega
theorem dp_strs {K : PySem.W.Frag} {H : Hp} : ∀ ns : List Str, DpAll K H (ns.map V.str) (ns.map PyData.str)
  | [] => .nil
  | n :: ns => .cons (.str n) (dp_strs ns)
theorem strs_lay : ∀ {ns : List Str}, (∀ z ∈ ns, NameOk z) → PyData.canLayAll0 (ns.map PyData.str) = true
  | [], _ => by simp [PyData.canLayAll0]
  | n :: ns, h => by
    have h1 := (h n (List.mem_cons_self ..)).sOk
    have h2 := strs_lay (ns := ns) fun z hz => h z (List.mem_cons_of_mem _ hz)
    simp [PyData.canLayAll0, PyData.canLay0, h1, h2]
theorem strs_depth : ∀ ns : List Str, PyData.depthAll (ns.map PyData.str) = 0
  | [] => by simp [PyData.depthAll]
  | n :: ns => by simp [PyData.depthAll, PyData.depth, strs_depth ns]
theorem strs_shaped {ns : List Str} (h : ∀ z ∈ ns, NameOk z) : SeqAt.shaped (.list (ns.map PyData.str)) = true := by
  have h2 : PyData.depth (.list (ns.map PyData.str)) ≤ 64 := by
    simp only [PyData.depth, strs_depth]
    omega
  show (PyData.canLay0 (.list (ns.map PyData.str)) && decide (PyData.depth (.list (ns.map PyData.str)) ≤ 64)) = true
  rw [Bool.and_eq_true]
  exact ⟨by simp only [PyData.canLay0, strs_lay h], decide_eq_true h2⟩
theorem strs_eqv_nil : ∀ ns : List Str, PyData.eqv (.list (ns.map PyData.str)) (.list []) = decide (ns = [])
  | [] => by simp [PyData.eqv, PyData.eqvAll]
  | n :: ns => by simp [PyData.eqv, PyData.eqvAll]
def spFresh : Sp := fun vs H Q _ => ∃ (z : Str) (lt : Addr) (ns : List Str), vs = [.str z, .ref lt] ∧ H lt = some (.lst (ns.map V.str)) ∧ NameOk z ∧ ns.length ≤ 4 ∧ ∀ z' H', NameOk z' → z' ∉ ns → Same H H' → Q (.str z') H'
section
variable {P : Program} {w : World} {K : PySem.W.Frag} {mg : Str → Option Value} {base : Heap}
theorem scFresh : FnScope ["_law_word", "_law_taken", "_law_sign"] ["_law_word", "_law_taken"] (defScope sFresh) := ⟨rfl, rfl, rfl, by decide +kernel, rfl, by decide +kernel, by decide +kernel⟩
theorem ok_fresh {fa : Addr} {fd : FuncData} (F : Fun K "_law_fresh" "_law_fresh" sFresh fa fd) : FnOk P w K mg base CX0 1 fa fd ["_law_word", "_law_taken"] spFresh := by
  refine F.ok scFresh (fun vs H Q E h => ?_) (fun cdv A outer s H vs Q E hr h => ?_)
  · obtain ⟨z, lt, ns, rfl, _⟩ := h
    rfl
  · obtain ⟨z, lt, ns, rfl, hlt, hz, hn, k⟩ := h
    refine ⟨_, pss_cons (ps_if (pt_cmpR (ninS K) (pv 0) (pv 1) (by rfl)) (pss_one (ps_ret (pv 0))) pss_nil)
      (pss_one (ps_ret (pe_ix (ixL K) (pe_lc (own := [("_law_sign", 2)]) rfl scFresh.nd (pi_str pe_str) (blkOk_by (N := ["_law_word", "_law_taken", "_law_sign"]) (sc := defScope sFresh) (by decide +kernel))
        (fun _ _ _ _ _ => pg_name (i := 2) scFresh.nd rfl (Or.inl rfl)) (fun _ _ _ _ _ => pts_one (pt_cmpR (ninS K) (pe_op op_add_str (pe_slice sl_str (pv 0) po_none (po_some pe_int)) (pv 2)) (pv 1) (by rfl)))
        (fun _ _ _ _ _ => pe_op op_add_str (pe_slice sl_str (pv 0) po_none (po_some pe_int)) (pv 2))) pe_int (fun _ _ => rfl)))), ?_⟩
    refine ⟨_, rfl, _, rfl, lt, _, rfl, .inl (SqL.of hlt), rfl, flat_strs ns, decide (z ∉ ns), ?_, ?_⟩
    · by_cases hm : z ∈ ns
      · show V.bl (!inV (V.str z) (ns.map V.str)) = _
        rw [inV_mem hm, decide_eq_false (fun c => c hm)]
        rfl
      · show V.bl (!inV (V.str z) (ns.map V.str)) = _
        rw [inV_not hm, decide_eq_true hm]
        rfl
    by_cases hm : z ∉ ns
    · exact ifT (decide_eq_true hm) ⟨_, rfl, k z H hz hm (Same.refl _)⟩
    refine ifF (decide_eq_false hm) ?_
    refine ⟨_, rfl, fun D hD => ?_⟩
    refine lc_it walk_str (fun i Hc => Same H Hc ∧ Hc D = some (.lst ((((dg.cps.toList.take i).map (cand z)).filter fun x => decide (x ∉ ns)).map V.str))) ⟨same_upd hD, upd_same⟩ (fun _ _ _ _ => True.intro) ?_ ?_
    · rintro i x _ Hc hi ⟨sc, hDc⟩ ⟨rfl, c, hc, rfl⟩
      have hc' : dg.cps.toList[i]? = some c := by rw [Array.getElem?_toList]; exact hc
      have hlen : (cutS z none (some 11)).length ≤ 11 := cut_len z 11
      have hsz : (cutS z none (some 11)).length + (ch c).length ≤ sizeLine := by
        have : (ch c).length = 1 := rfl
        rw [sizeLine_eq]
        omega
      refine ⟨rfl, _, rfl, _, rfl, z, rfl, name_small hz, _, rfl, _, _, rfl, rfl, hsz, _, rfl, lt, _, rfl, .inl (SqL.of (sc _ _ hlt)), rfl, flat_strs ns, decide (cand z c ∉ ns), ?_, ?_⟩
      · by_cases hm : cand z c ∈ ns
        · show V.bl (!inV (V.str (cand z c)) (ns.map V.str)) = _
          rw [inV_mem hm, decide_eq_false (fun c => c hm)]
          rfl
        · show V.bl (!inV (V.str (cand z c)) (ns.map V.str)) = _
          rw [inV_not hm, decide_eq_true hm]
          rfl
      by_cases hm : cand z c ∉ ns
      · refine ifT (decide_eq_true hm) ⟨_, rfl, _, rfl, z, rfl, name_small hz, _, rfl, _, _, rfl, rfl, hsz, _, hDc, ?_, same_up sc hD, ?_⟩
        · have e1 := List.length_filter_le (fun x => decide (x ∉ ns)) ((dg.cps.toList.take i).map (cand z))
          have e2 : dg.cps.toList.length = 5 := by rw [dg_eq]; rfl
          rw [List.length_map, List.length_take, e2] at e1
          rw [List.length_map, sizeLine_eq]
          omega
        · rw [upd_same, take_snoc hc', List.map_append, List.filter_append]
          show _ = some (HO.lst ((_ ++ List.filter _ [cand z c]).map V.str))
          rw [List.filter_cons_of_pos (by simpa using hm), List.map_append]
          rfl
      · refine ifF (decide_eq_false hm) ⟨sc, ?_⟩
        rw [take_snoc hc', List.map_append, List.filter_append]
        show _ = some (HO.lst ((_ ++ List.filter _ [cand z c]).map V.str))
        rw [List.filter_cons_of_neg (by simpa using hm), List.filter_nil, List.append_nil]
        exact hDc
    rintro Hc ⟨sc, hDc⟩
    have hfull : dg.cps.toList.take dg.cps.size = dg.cps.toList := List.take_of_length_le (by rw [Array.length_toList]; exact Nat.le_refl _)
    have hDc : Hc D = some (.lst ((((dg.cps.toList.take dg.cps.size).map (cand z)).filter fun x => decide (x ∉ ns)).map V.str)) := hDc
    rw [hfull] at hDc
    cases e : (dg.cps.toList.map (cand z)).filter fun x => decide (x ∉ ns) with
    | nil => exact absurd e (fresh_ex hn)
    | cons z' r =>
      rw [e] at hDc
      have hm : z' ∈ (dg.cps.toList.map (cand z)).filter fun x => decide (x ∉ ns) := by rw [e]; exact List.mem_cons_self ..
      obtain ⟨h1, h2⟩ := List.mem_filter.mp hm
      obtain ⟨c, hc, rfl⟩ := List.mem_map.mp h1
      exact ⟨D, _, 0, .str (cand z c), rfl, rfl, SqL.of hDc, atI_nat (j := 0) rfl, k _ Hc (cand_ok hz (dg_ok c hc)) (by simpa using h2) sc⟩
theorem scNear : FnScope ["_law_pool_here", "_law_taken", "_law_signs", "_law_manner", "_law_word", "_law_at"] ["_law_pool_here", "_law_taken"] (defScope sNear) := ⟨rfl, rfl, rfl, by decide +kernel, rfl, by decide +kernel, by decide +kernel⟩
def spNear : Sp := fun vs H Q _ => ∃ (p q lt : Addr) (n : Nat) (ns : List Str), vs = [.ref p, .ref lt] ∧ Pool H p q n ∧ n < 800000000 ∧ lt ≠ p ∧ lt ≠ q ∧ H lt = some (.lst (ns.map V.str)) ∧ (∀ z ∈ ns, NameOk z) ∧ ns.length ≤ 4 ∧ ∀ z H', NameOk z → z ∉ ns → Grow p q H H' → Pool H' p q (n + 16) → Q (.str z) H'
theorem ok_near {fa : Addr} {fd : FuncData} (F : Fun K "_law_near" "_law_near" sNear fa fd) (cD : Cal P w K mg base "_law_draw" 1 ["_law_pool_here", "_law_limit"] spDraw) (cN : Cal P w K mg base "_law_name" 2 ["_law_pool_here"] spName)
    (cF : Cal P w K mg base "_law_fresh" 1 ["_law_word", "_law_taken"] spFresh) : FnOk P w K mg base CX0 3 fa fd ["_law_pool_here", "_law_taken"] spNear := by
  refine F.ok scNear (fun vs H Q E h => ?_) (fun cdv A outer s H vs Q E hr h => ?_)
  · obtain ⟨p, q, lt, n, ns, rfl, _⟩ := h
    rfl
  · obtain ⟨p, q, lt, n, ns, rfl, hP, hn, hnp, hnq, hlt, hns, hn4, k⟩ := h
    have hu : _ := Nat.lt_of_succ_lt (room65 hr)
    refine ⟨_, pss_cons (ps_set (i := 2) scNear.nd rfl (Or.inl rfl) pe_str)
      (pss_cons (ps_set (i := 3) scNear.nd rfl (Or.inl rfl) (pc cD hr (pa_cons (pv 0) (pa_cons pe_int pa_nil))))
      (pss_cons (ps_set (i := 4) scNear.nd rfl (Or.inl rfl) (pc cN hr (pa_cons (pv 0) pa_nil)))
      (pss_cons (ps_set (i := 5) scNear.nd rfl (Or.inl rfl) (pe_op op_add pe_int (pc cD hr (pa_cons (pv 0) (pa_cons pe_int pa_nil)))))
      (pss_cons (ps_if (pw_and (pt_cmpR (op_neD hu) (pv 1) (pe_lst pa_nil) (nomark _)) (pw_and1 (pt_cmpR op_eq (pv 3) pe_int (nomark _)))).pt
        (pss_one (ps_set (i := 4) scNear.nd rfl (Or.inl rfl) (pe_op op_add_str (pe_slice sl_str (pe_ix (ixL K) (pv 1) pe_int (fun _ _ => rfl)) po_none (po_some pe_int)) (pe_ix ix_str (pv 2) (pc cD hr (pa_cons (pv 0) (pa_cons pe_int pa_nil))) (fun _ _ => rfl))))) pss_nil)
      (pss_cons (ps_if (pw_and (pt_cmpR (op_neD hu) (pv 1) (pe_lst pa_nil) (nomark _)) (pw_and1 (pt_cmpR op_eq (pv 3) pe_int (nomark _)))).pt
        (pss_one (ps_set (i := 4) scNear.nd rfl (Or.inl rfl) (pe_slice sl_str (pe_op op_add_str (pe_op op_add_str (pe_slice sl_str (pe_ix (ixL K) (pv 1) pe_int (fun _ _ => rfl)) po_none (po_some (pv 5))) (pe_ix ix_str (pv 2) (pc cD hr (pa_cons (pv 0) (pa_cons pe_int pa_nil))) (fun _ _ => rfl)))
          (pe_slice sl_str (pe_ix (ixL K) (pv 1) pe_int (fun _ _ => rfl)) (po_some (pe_op op_add (pv 5) pe_int)) po_none)) po_none (po_some pe_int)))) pss_nil)
      (pss_one (ps_ret (pc cF hr (pa_cons (pv 4) (pa_cons (pv 1) pa_nil)))))))))), ?_⟩
    refine ⟨_, rfl, p, q, n, 3, rfl, hP, by omega, by decide, by decide, fun v1 H1 a0 a1 g1 P1 => ?_⟩
    refine ⟨_, rfl, p, q, n + 1, rfl, P1, by omega, fun z H2 hz g2 P2 => ?_⟩
    refine ⟨_, rfl, p, q, n + 14, 11, rfl, P2, by omega, by decide, by decide, fun v3 H3 b0 b1 g3 P3 => ?_⟩
    have g03 : Grow p q H H3 := (g1.trans g2).trans g3
    have hlt3 : H3 lt = some (.lst (ns.map V.str)) := g03.keep _ _ hnp hnq hlt
    refine ⟨_, _, rfl, rfl, ?_⟩
    have dpl : ∀ {Hc : Hp}, Hc lt = some (.lst (ns.map V.str)) → Dp K Hc (.ref lt) (.list (ns.map PyData.str)) := fun h => Dp.lst (SqL.of h) (dp_strs ns)
    refine ⟨_, rfl, (by show 0 ≤ sizeLine; decide), fun e he => ⟨.list (ns.map PyData.str), .list [], dpl (by rw [upd_ne (ne_of_none hlt3 he)]; exact hlt3), Dp.lst (SqL.of upd_same) .nil, strs_shaped hns, ints_shaped [], !decide (ns = []), by rw [strs_eqv_nil], ?_⟩⟩
    generalize hH4 : L2.upd H3 e (.lst []) = H4
    have s4 : Same H3 H4 := by rw [← hH4]; exact same_upd he
    have g04 : Grow p q H H4 := g03.trans (Grow.of s4)
    have P4 := P3.keeps s4
    have hlt4 := s4 _ _ hlt3
    have fin : ∀ (z' : Str) (Hc : Hp) (m : Nat), NameOk z' → Grow p q H Hc → Pool Hc p q m → m ≤ n + 16 → spFresh [.str z', .ref lt] Hc (fun v H' => Q v H') E := fun z' Hc m hz' gc hPc hm =>
      ⟨z', lt, ns, rfl, gc.keep _ _ hnp hnq hlt, hz', hn4, fun z2 H5 h5 h6 s5 => k z2 H5 h5 h6 (gc.trans (Grow.of s5)) ((hPc.keeps s5).le hm)⟩
    cases ns with
    | nil =>
      refine ifF rfl (ifF rfl ?_)
      refine ⟨_, rfl, (by show 0 ≤ sizeLine; decide), fun e he => ⟨.list [], .list [], dpl (by rw [upd_ne (ne_of_none hlt4 he)]; exact hlt4), Dp.lst (SqL.of upd_same) .nil, ints_shaped [], ints_shaped [], false, by rfl, ifF rfl (ifF rfl ?_)⟩⟩
      exact ⟨_, rfl, _, rfl, fin z _ _ hz (g04.trans (Grow.of (same_upd he))) (P4.keeps (same_upd he)) (by omega)⟩
    | cons t0 ns =>
      have ht0 := hns t0 (List.mem_cons_self ..)
      refine ifT rfl ?_
      refine ⟨_, rfl, rfl, _, rfl, ?_⟩
      by_cases h1 : v1 = 1
      · refine ifT (decide_eq_true (by rw [h1])) ?_
        refine ⟨_, rfl, lt, _, 0, .str t0, rfl, rfl, SqL.of hlt4, atI_nat (j := 0) rfl, _, rfl, t0, rfl, name_small ht0, _, rfl, _, rfl, p, q, n + 15, 37, rfl, P4, by omega, by decide, by decide, fun v5 H5 d0 d1 g5 P5 => ?_⟩
        obtain ⟨c, hc, hok⟩ := sign_at d0 d1
        have hl11 : (cutS t0 none (some 11)).length ≤ 11 := cut_len t0 11
        have g05 : Grow p q H H5 := g04.trans g5
        have hlt5 := g05.keep _ _ hnp hnq hlt
        refine ⟨_, _, c, rfl, rfl, signs_len, hc, _, _, rfl, rfl, ?_, ?_⟩
        · have e1 : (⟨#[c]⟩ : Str).length = 1 := rfl
          rw [e1, sizeLine_eq]
          omega
        refine ⟨_, rfl, (by show 0 ≤ sizeLine; decide), fun e2 he2 => ⟨.list ((t0 :: ns).map PyData.str), .list [], dpl (by rw [upd_ne (ne_of_none hlt5 he2)]; exact hlt5), Dp.lst (SqL.of upd_same) .nil, strs_shaped hns, ints_shaped [], !decide (t0 :: ns = []), by rw [strs_eqv_nil], ifT rfl ?_⟩⟩
        refine ⟨_, rfl, rfl, _, rfl, ifF (decide_eq_false (fun z => by injection z; omega)) ?_⟩
        exact ⟨_, rfl, _, rfl, fin (cand t0 c) _ _ (cand_ok ht0 hok) (g05.trans (Grow.of (same_upd he2))) (P5.keeps (same_upd he2)) (by omega)⟩
      refine ifF (decide_eq_false (fun z => h1 (by injection z))) ?_
      refine ⟨_, rfl, (by show 0 ≤ sizeLine; decide), fun e2 he2 => ⟨.list ((t0 :: ns).map PyData.str), .list [], dpl (by rw [upd_ne (ne_of_none hlt4 he2)]; exact hlt4), Dp.lst (SqL.of upd_same) .nil, strs_shaped hns, ints_shaped [], !decide (t0 :: ns = []), by rw [strs_eqv_nil], ifT rfl ?_⟩⟩
      generalize hH5 : L2.upd H4 e2 (.lst []) = H5
      have s5 : Same H4 H5 := by rw [← hH5]; exact same_upd he2
      have g05 : Grow p q H H5 := g04.trans (Grow.of s5)
      have P5 := P4.keeps s5
      have hlt5 := s5 _ _ hlt4
      refine ⟨_, rfl, rfl, _, rfl, ?_⟩
      by_cases h2 : v1 = 2
      · refine ifT (decide_eq_true (by rw [h2])) ?_
        obtain ⟨j, rfl⟩ := Int.eq_ofNat_of_zero_le b0
        refine ⟨_, rfl, lt, _, 0, .str t0, rfl, rfl, SqL.of hlt5, atI_nat (j := 0) rfl, _, rfl, _, rfl, t0, rfl, name_small ht0, _, rfl, _, rfl, p, q, n + 15, 37, rfl, P5, by omega, by decide, by decide, fun v6 H6 d0 d1 g6 P6 => ?_⟩
        obtain ⟨c, hc, hok⟩ := sign_at d0 d1
        have g06 : Grow p q H H6 := g05.trans g6
        have hlt6 := g06.keep _ _ hnp hnq hlt
        have ej : (1 : Int) + (j : Int) = ((1 + j : Nat) : Int) := by omega
        have ej2 : (1 : Int) + (j : Int) + 1 = ((1 + j + 1 : Nat) : Int) := by omega
        have e1 : (⟨#[c]⟩ : Str).length = 1 := rfl
        have l1 : (cutS t0 none (some ((1 : Int) + (j : Int)))).length ≤ 12 := by
          rw [ej]
          have := cut_len t0 (1 + j)
          omega
        have l2 : (cutS t0 (some ((1 : Int) + (j : Int) + 1)) none).length ≤ 12 := by
          rw [ej2, str_len]
          have e := tl_from t0 (1 + j + 1)
          have e' : (cutS t0 (some ((1 + j + 1 : Nat) : Int)) none).cps.toList = t0.cps.toList.drop (1 + j + 1) := e
          have e2 := ht0.2.1
          rw [str_len] at e2
          rw [e', List.length_drop]
          omega
        have l3 : (cutS t0 none (some ((1 : Int) + (j : Int))) ++ (⟨#[c]⟩ : Str)).length ≤ 13 := by
          rw [str_len]
          have e := TL.tl_append (cutS t0 none (some ((1 : Int) + (j : Int)))) (⟨#[c]⟩ : Str)
          have e' : (cutS t0 none (some ((1 : Int) + (j : Int))) ++ (⟨#[c]⟩ : Str)).cps.toList = TL.tl (cutS t0 none (some ((1 : Int) + (j : Int)))) ++ [c] := e
          rw [str_len] at l1
          have e3 : (TL.tl (cutS t0 none (some ((1 : Int) + (j : Int))))).length ≤ 12 := l1
          rw [e', List.length_append, List.length_singleton]
          omega
        have l4 : (cutS t0 none (some ((1 : Int) + (j : Int))) ++ (⟨#[c]⟩ : Str) ++ cutS t0 (some ((1 : Int) + (j : Int) + 1)) none).length ≤ 25 := by
          rw [str_len]
          have e := TL.tl_append (cutS t0 none (some ((1 : Int) + (j : Int))) ++ (⟨#[c]⟩ : Str)) (cutS t0 (some ((1 : Int) + (j : Int) + 1)) none)
          have e' : (cutS t0 none (some ((1 : Int) + (j : Int))) ++ (⟨#[c]⟩ : Str) ++ cutS t0 (some ((1 : Int) + (j : Int) + 1)) none).cps.toList = TL.tl (cutS t0 none (some ((1 : Int) + (j : Int))) ++ (⟨#[c]⟩ : Str)) ++ TL.tl (cutS t0 (some ((1 : Int) + (j : Int) + 1)) none) := e
          rw [str_len] at l2 l3
          have e3 : (TL.tl (cutS t0 (some ((1 : Int) + (j : Int) + 1)) none)).length ≤ 12 := l2
          have e4 : (TL.tl (cutS t0 none (some ((1 : Int) + (j : Int))) ++ (⟨#[c]⟩ : Str))).length ≤ 13 := l3
          rw [e', List.length_append]
          omega
        refine ⟨_, _, c, rfl, rfl, signs_len, hc, _, _, rfl, rfl, ?_, _, rfl, lt, _, 0, .str t0, rfl, rfl, SqL.of hlt6, atI_nat (j := 0) rfl, _, rfl, _, _, rfl, rfl, _, rfl, t0, rfl, name_small ht0, _, _, rfl, rfl, ?_, _, rfl, _, rfl, ?_, ?_⟩
        · rw [e1, sizeLine_eq]
          omega
        · rw [sizeLine_eq]
          have := l3
          omega
        · rw [sizeLine_eq]
          have := l4
          omega
        refine ⟨_, rfl, _, rfl, fin _ _ _ ?_ g06 P6 (by omega)⟩
        have hmid := mid_ok (j := j) ht0 hok
        unfold mid at hmid
        rw [← ej, ← ej2] at hmid
        exact hmid
      · refine ifF (decide_eq_false (fun z => h2 (by injection z))) ?_
        exact ⟨_, rfl, _, rfl, fin z _ _ hz g05 P5 (by omega)⟩
end
end WD
/-! the law's specs -/
namespace WD
open PySem PySem.Spec PyProof.Rows L2
abbrev sSpec : Stmt := top 49
def prv (a : Str × Str) : List V := [.str a.1, .str a.2]
/-- a spec -/
def SpecAt (G : Hp) (t : Addr) (ks : List (Str × Int × Int)) (as : List (Str × Str × Int)) : Prop := ∃ nm R Y, G t = some (.tup [.str nm, .ref R, .ref Y]) ∧ NameOk nm ∧ LRows G R (ks.map kv) ∧ LRows G Y (as.map av)
theorem SpecAt.keeps {G G' : Hp} {t : Addr} {ks : List (Str × Int × Int)} {as : List (Str × Str × Int)} (h : SpecAt G t ks as) (s : Same G G') : SpecAt G' t ks as := by
  obtain ⟨nm, R, Y, h1, h2, h3, h4⟩ := h
  exact ⟨nm, R, Y, s _ _ h1, h2, h3.keeps s, h4.keeps s⟩
def spSpec : Sp := fun vs H Q _ => ∃ (p q : Addr) (n : Nat), vs = [.ref p] ∧ Pool H p q n ∧ n < 700000000 ∧ ∀ H' t ks as, Grow p q H H' → Pool H' p q (n + 135) → SpecAt (newer H H') t ks as → TaskOk ks as → Q (.ref t) H'
theorem erase_perm {α : Type} : ∀ {l : List α} {k : Nat} {x : α}, l[k]? = some x → (x :: l.eraseIdx k).Perm l
  | [], _, _, h => by simp at h
  | y :: l, 0, x, h => by
    have e : y = x := by simpa using h
    subst e
    exact List.Perm.refl _
  | y :: l, k + 1, x, h => by
    have ih := erase_perm (l := l) (k := k) (x := x) (by simpa using h)
    show (x :: y :: l.eraseIdx k).Perm (y :: l)
    exact (List.Perm.swap y x _).trans (ih.cons y)
theorem All2.erase {α β : Type} {R : α → β → Prop} : ∀ {l : List α} {m : List β} (k : Nat), All2 R l m → All2 R (l.eraseIdx k) (m.eraseIdx k)
  | _, _, _, .nil => .nil
  | _, _, 0, .cons _ t => t
  | _, _, k + 1, .cons h t => .cons h (t.erase k)
theorem map_erase {α β : Type} (fm : α → β) : ∀ (l : List α) (k : Nat), (l.map fm).eraseIdx k = (l.eraseIdx k).map fm
  | [], _ => rfl
  | _ :: _, 0 => rfl
  | x :: l, k + 1 => by
    show fm x :: (l.map fm).eraseIdx k = fm x :: (l.eraseIdx k).map fm
    rw [map_erase fm l k]
theorem rows_wr {H Hc : Hp} {a : Addr} {u o : HO} {vs : List V} {xss : List (List V)} (h : Rows (newer H Hc) vs xss) (ha : Hc a = some u) (hu : ∀ xs, u ≠ .tup xs) : Rows (newer H (L2.upd Hc a o)) vs xss := h.mono fun v xs ⟨b, e, hb⟩ => ⟨b, e, newer_at (newer_none hb) (by
  have hb3 := newer_sub _ _ _ _ hb
  rw [upd_ne (ne_of hb3 ha (fun z => hu _ z.symm))]
  exact hb3)⟩
/-- all pairs of some names -/
def prs (ns : List Str) : List (Str × Str) := (List.range (ns.length * ns.length)).map fun k => (ns.getD (k / ns.length) ⟨#[]⟩, ns.getD (k % ns.length) ⟨#[]⟩)
theorem getD_of {ns : List Str} {j : Nat} (h : j < ns.length) : ns[j]? = some (ns.getD j ⟨#[]⟩) := by
  rw [List.getElem?_eq_getElem h]
  simp [List.getD, h]
theorem prs_nodup {ns : List Str} (h : ns.Nodup) : (prs ns).Nodup := by
  unfold prs List.Nodup
  rw [List.pairwise_iff_getElem]
  intro i j hi hj hij e
  rw [List.length_map, List.length_range] at hi hj
  rw [List.getElem_map, List.getElem_map, List.getElem_range, List.getElem_range] at e
  injection e with e1 e2
  have hs : 0 < ns.length := by
    cases ns with
    | nil => simp at hi
    | cons a l => simp
  have k1 := getD_of (ns := ns) (j := i / ns.length) (Nat.div_lt_of_lt_mul hi)
  have k2 := getD_of (ns := ns) (j := j / ns.length) (Nat.div_lt_of_lt_mul hj)
  have k3 := getD_of (ns := ns) (j := i % ns.length) (Nat.mod_lt _ hs)
  have k4 := getD_of (ns := ns) (j := j % ns.length) (Nat.mod_lt _ hs)
  rw [e1] at k1
  rw [e2] at k3
  have d1 := L2.nd_ix h k1 k2
  have d2 := L2.nd_ix h k3 k4
  have m1 := Nat.div_add_mod i ns.length
  have m2 := Nat.div_add_mod j ns.length
  rw [d1, d2] at m1
  omega
theorem prs_mem {ns : List Str} {a : Str × Str} (h : a ∈ prs ns) : a.1 ∈ ns ∧ a.2 ∈ ns := by
  obtain ⟨k, hk, rfl⟩ := List.mem_map.mp h
  have hk := List.mem_range.mp hk
  have hs : 0 < ns.length := by
    cases ns with
    | nil => simp at hk
    | cons a l => simp
  exact ⟨List.mem_of_getElem? (getD_of (Nat.div_lt_of_lt_mul hk)), List.mem_of_getElem? (getD_of (Nat.mod_lt _ hs))⟩
section
variable {P : Program} {w : World} {K : PySem.W.Frag} {mg : Str → Option Value} {base : Heap}
theorem scSpec : FnScope ["_law_pool_here", "_law_size", "_law_many", "_law_limits", "_law_taken", "_law_rows", "_law_k", "_law_word", "_law_pairs", "_law_ties", "_law_pair"] ["_law_pool_here"] (defScope sSpec) := ⟨rfl, rfl, rfl, by decide +kernel, rfl, by decide +kernel, by decide +kernel⟩
theorem ok_spec {fa : Addr} {fd : FuncData} (F : Fun K "_law_spec" "_law_spec" sSpec fa fd) (g : Gs mg) (cD : Cal P w K mg base "_law_draw" 1 ["_law_pool_here", "_law_limit"] spDraw) (cN : Cal P w K mg base "_law_name" 2 ["_law_pool_here"] spName)
    (cE : Cal P w K mg base "_law_near" 3 ["_law_pool_here", "_law_taken"] spNear) (cB : Cal P w K mg base "_law_number" 2 ["_law_pool_here", "_law_most"] spNumber) : FnOk P w K mg base CX0 4 fa fd ["_law_pool_here"] spSpec := by
  refine F.ok scSpec (fun vs H Q E h => ?_) (fun cdv A outer s H vs Q E hr h => ?_)
  · obtain ⟨p, q, n, rfl, _⟩ := h
    rfl
  · obtain ⟨p, q, n, rfl, hP, hn, k⟩ := h
    refine ⟨_, pss_cons (ps_set (i := 1) scSpec.nd rfl (Or.inr rfl) (pe_op op_add pe_int (pc cD hr (pa_cons (pv 0) (pa_cons pe_int pa_nil)))))
      (pss_cons (ps_set (i := 2) scSpec.nd rfl (Or.inl rfl) (pc cD hr (pa_cons (pv 0) (pa_cons (pe_op op_add pe_int (pe_callB (call_min2 rfl) (by rfl) g.min (by decide +kernel) (pa_cons pe_int (pa_cons (pe_op op_mul (pv 1) (pv 1)) pa_nil)))) pa_nil))))
      (pss_cons (ps_set (i := 3) scSpec.nd rfl (Or.inl rfl) (pe_ix (ixL K) (pe_lst (pa_cons (pe_lst (pa_cons pe_int (pa_cons pe_int pa_nil))) (pa_cons (pe_lst (pa_cons pe_int (pa_cons pe_int pa_nil))) pa_nil))) (pe_callTy call_int1 (by rfl) g.int (by decide +kernel) (pa_cons (pe_cmpR op_gt (pv 2) pe_int (nomark _)) pa_nil)) (fun _ _ => rfl)))
      (pss_cons (ps_set (i := 4) scSpec.nd rfl (Or.inr rfl) (pe_lst pa_nil))
      (pss_cons (ps_set (i := 5) scSpec.nd rfl (Or.inl rfl) (pe_lst pa_nil))
      (pss_cons (ps_for PassesOwn.never rfl (pi_range1 rfl g.range (pa_cons (pv 1) pa_nil)) (pg_name (i := 6) scSpec.nd rfl (Or.inl rfl))
        (pss_cons (ps_set (i := 7) scSpec.nd rfl (Or.inl rfl) (pc cE hr (pa_cons (pv 0) (pa_cons (pv 4) pa_nil))))
        (pss_cons (ps_expr (pe_bm PySem.F.plainAttrs_list PySem.F.slot_list_append PySem.F.type_list_append mt_append (pv 4) (pa_cons (pv 7) pa_nil)))
        (pss_one (ps_expr (pe_bm PySem.F.plainAttrs_list PySem.F.slot_list_append PySem.F.type_list_append mt_append (pv 5) (pa_cons (pe_tup (pa_cons (pv 7)
          (pa_cons (pc cB hr (pa_cons (pv 0) (pa_cons (pe_ix (ixL K) (pv 3) pe_int (fun _ _ => rfl)) pa_nil))) (pa_cons (pc cB hr (pa_cons (pv 0) (pa_cons (pe_ix (ixL K) (pv 3) pe_int (fun _ _ => rfl)) pa_nil))) pa_nil)))) pa_nil)))))))
      (pss_cons (ps_setLc (i := 8) rfl scSpec.nd rfl rfl (sw_true rfl rfl rfl (by decide +kernel)) (own := [("_law_k", 6)]) (pi_range1 rfl g.range (pa_cons (pe_op op_mul (pv 1) (pv 1)) pa_nil)) (blkOk_by (N := ["_law_pool_here", "_law_size", "_law_many", "_law_limits", "_law_taken", "_law_rows", "_law_k", "_law_word", "_law_pairs", "_law_ties", "_law_pair"]) (sc := defScope sSpec) (by decide +kernel))
          (fun _ _ _ _ _ => pg_name (i := 6) scSpec.nd rfl (Or.inl rfl)) (fun _ _ _ _ _ => pts_nil)
          (fun _ _ _ _ _ => pe_tup (pa_cons (pe_ix (ixL K) (pv 4) (pe_op op_fdiv (pv 6) (pv 1)) (fun _ _ => rfl)) (pa_cons (pe_ix (ixL K) (pv 4) (pe_op op_mod (pv 6) (pv 1)) (fun _ _ => rfl)) pa_nil))))
      (pss_cons (ps_set (i := 9) scSpec.nd rfl (Or.inl rfl) (pe_lst pa_nil))
      (pss_cons (ps_for PassesOwn.never rfl (pi_range1 rfl g.range (pa_cons (pv 2) pa_nil)) (pg_name (i := 6) scSpec.nd rfl (Or.inl rfl))
        (pss_cons (ps_set (i := 10) scSpec.nd rfl (Or.inl rfl) (pe_bm PySem.F.plainAttrs_list PySem.F.slot_list_pop PySem.F.type_list_pop mt_popAt (pv 8) (pa_cons (pc cD hr (pa_cons (pv 0) (pa_cons (pe_callB (lenS K) (by rfl) g.len PySem.boot_len (pa_cons (pv 8) pa_nil)) pa_nil))) pa_nil)))
        (pss_one (ps_expr (pe_bm PySem.F.plainAttrs_list PySem.F.slot_list_append PySem.F.type_list_append mt_append (pv 9) (pa_cons (pe_tup (pa_cons (pe_ix (ixT K) (pv 10) pe_int (fun _ _ => rfl)) (pa_cons (pe_ix (ixT K) (pv 10) pe_int (fun _ _ => rfl)) (pa_cons (pc cB hr (pa_cons (pv 0) (pa_cons pe_int pa_nil))) pa_nil)))) pa_nil))))))
      (pss_one (ps_ret (pe_tup (pa_cons (pc cN hr (pa_cons (pv 0) pa_nil)) (pa_cons (pv 5) (pa_cons (pv 9) pa_nil)))))))))))))), ?_⟩
    refine ⟨_, rfl, p, q, n, 4, rfl, hP, by omega, by decide, by decide, fun v1 H1 a0 a1 g1 P1 => ⟨_, _, rfl, rfl, ?_⟩⟩
    obtain ⟨j, rfl⟩ := Int.eq_ofNat_of_zero_le a0
    have hj : j ≤ 3 := by omega
    have hs1 : (1 : Int) + (j : Int) = ((j + 1 : Nat) : Int) := by omega
    have hsq : ((1 : Int) + (j : Int)) * (1 + (j : Int)) = (((j + 1) * (j + 1) : Nat) : Int) := by rw [hs1, Int.natCast_mul]
    have hsq2 : (j + 1) * (j + 1) ≤ 16 := Nat.le_trans (Nat.mul_le_mul (show j + 1 ≤ 4 by omega) (show j + 1 ≤ 4 by omega)) (by decide)
    have hsq1 : 1 ≤ (j + 1) * (j + 1) := Nat.mul_pos (by omega) (by omega)
    refine ⟨_, rfl, _, rfl, _, rfl, _, _, rfl, rfl, .inl ⟨by omega, by omega⟩, _, _, rfl, _, _, rfl, rfl, p, q, n + 1, _, rfl, P1, by omega, ?_, ?_, fun v2 H2 b0 b1 g2 P2 => ?_⟩
    · rw [hsq]
      split <;> omega
    · rw [hsq]
      split <;> omega
    obtain ⟨m, rfl⟩ := Int.eq_ofNat_of_zero_le b0
    have hm12 : m ≤ 12 ∧ m ≤ (j + 1) * (j + 1) := by
      rw [hsq] at b1
      split at b1 <;> omega
    have g02 : Grow p q H H2 := g1.trans g2
    refine ⟨(by show 2 ≤ sizeLine; decide), fun L1 hL1 => ⟨(by show 2 ≤ sizeLine; decide), fun L2' hL2 => ⟨(by show 2 ≤ sizeLine; decide), fun L0 hL0 => ?_⟩⟩⟩
    generalize hHa : L2.upd H2 L1 (.lst [.int 99, .int 99]) = Ha at hL2 hL0 ⊢
    have sa : Same H2 Ha := by rw [← hHa]; exact same_upd hL1
    have ha1 : Ha L1 = some (.lst [.int 99, .int 99]) := by rw [← hHa]; exact upd_same
    generalize hHb : L2.upd Ha L2' (.lst [.int 9, .int 24]) = Hb at hL0 ⊢
    have sb : Same Ha Hb := by rw [← hHb]; exact same_upd hL2
    have hb2 : Hb L2' = some (.lst [.int 9, .int 24]) := by rw [← hHb]; exact upd_same
    generalize hH3 : L2.upd Hb L0 (.lst [.ref L1, .ref L2']) = H3
    have s3 : Same Hb H3 := by rw [← hH3]; exact same_upd hL0
    have h3 : H3 L0 = some (.lst [.ref L1, .ref L2']) := by rw [← hH3]; exact upd_same
    have s23 : Same H2 H3 := (sa.trans sb).trans s3
    obtain ⟨M, la, lb, hM1, hM2, hla, hlb, hMn⟩ : ∃ (M : Addr) (la lb : Int), atI [V.ref L1, V.ref L2'] (if decide ((0 : Int) < (m : Int)) = true then (1 : Int) else 0) = some (.ref M) ∧ H3 M = some (.lst [.int la, .int lb]) ∧ la = (if m = 0 then 99 else 9) ∧ lb = (if m = 0 then 99 else 24) ∧ H2 M = none := by
      by_cases hm0 : m = 0
      · refine ⟨L1, 99, 99, ?_, s3 _ _ (sb _ _ ha1), by rw [if_pos hm0], by rw [if_pos hm0], hL1⟩
        rw [if_neg (by rw [decide_eq_true_iff]; omega)]
        exact atI_nat (j := 0) rfl
      · refine ⟨L2', 9, 24, ?_, s3 _ _ hb2, by rw [if_neg hm0], by rw [if_neg hm0], Same.free sa hL2⟩
        rw [if_pos (decide_eq_true (by omega))]
        exact atI_nat (j := 1) rfl
    refine ⟨_, rfl, _, _, rfl, rfl, .inr ⟨_, rfl, L0, _, _, .ref M, rfl, rfl, SqL.of h3, hM1, ?_⟩⟩
    have hMp := ne_dom hMn P2.dp
    have hMq := ne_dom hMn P2.dq
    have P3 := P2.keeps s23
    have g03 : Grow p q H H3 := g02.trans (Grow.of s23)
    refine ⟨(by show 0 ≤ sizeLine; decide), fun T hT0 => ⟨(by show 0 ≤ sizeLine; decide), fun R hR0 => ?_⟩⟩
    have hTM : T ≠ M := (ne_of_none hM2 hT0).symm
    have hTp := ne_dom hT0 P3.dp
    have hTq := ne_dom hT0 P3.dq
    generalize hH4 : L2.upd H3 T (.lst []) = H4 at hR0 ⊢
    have s4 : Same H3 H4 := by rw [← hH4]; exact same_upd hT0
    have hT4 : H4 T = some (.lst []) := by rw [← hH4]; exact upd_same
    have P4 := P3.keeps s4
    have hRT : R ≠ T := (ne_of_none hT4 hR0).symm
    have hRM : R ≠ M := (ne_of_none (s4 _ _ hM2) hR0).symm
    have hRp := ne_dom hR0 P4.dp
    have hRq := ne_dom hR0 P4.dq
    have s5 : Same H4 (L2.upd H4 R (.lst [])) := same_upd hR0
    have g05 : Grow p q H (L2.upd H4 R (.lst [])) := (g03.trans (Grow.of s4)).trans (Grow.of s5)
    have free : ∀ {b : Addr} {Hx : Hp}, Grow p q H Hx → Hx b = none → H b = none := fun {b Hx} gx e => by
      cases e2 : H b with
      | none => rfl
      | some o => exact absurd e (gx.dom b (by rw [e2]; simp))
    have hTH : H T = none := free g03 hT0
    have hRH : H R = none := free (g03.trans (Grow.of s4)) hR0
    have en : ((1 : Int) + (j : Int)).toNat = j + 1 := by omega
    refine ⟨_, rfl, _, rfl, by omega, by omega, ?_⟩
    rw [en]
    refine for_it walk_range0 (fun i σ Hc => (∃ v6 v7 v8 v9 v10 : Option V, σ = [some (.ref p), some (.int (1 + (j : Int))), some (.int (m : Int)), some (.ref M), some (.ref T), some (.ref R), v6, v7, v8, v9, v10]) ∧ Grow p q H Hc ∧ Pool Hc p q (n + 2 + 20 * i) ∧ Hc M = some (.lst [.int la, .int lb]) ∧
        ∃ (ks : List (Str × Int × Int)) (vs : List V), ks.length = i ∧ Hc T = some (.lst ((ks.map (·.1)).map V.str)) ∧ Hc R = some (.lst vs) ∧ Rows (newer H Hc) vs (ks.map kv) ∧ (ks.map (·.1)).Nodup ∧ ∀ k ∈ ks, NameOk k.1 ∧ 1 ≤ k.2.1 ∧ k.2.1 ≤ la ∧ 1 ≤ k.2.2 ∧ k.2.2 ≤ lb)
      ⟨⟨_, _, _, _, _, rfl⟩, g05, (P4.keeps s5).le (by omega), s5 _ _ (s4 _ _ hM2), [], [], rfl, s5 _ _ hT4, upd_same, .nil, List.nodup_nil, fun k hk => by cases hk⟩ (fun _ _ _ _ _ => True.intro) ?_ ?_
    · rintro i x σ _ Hc hi ⟨⟨v6, v7, v8, v9, v10, rfl⟩, gr, hPc, hMc, ks, vs, hkl, hTc, hRc, hrw, hnd, hall⟩ ⟨rfl, rfl⟩
      have hla1 : 1 ≤ la ∧ la ≤ 99 := by rw [hla]; split <;> omega
      have hlb1 : 1 ≤ lb ∧ lb ≤ 99 := by rw [hlb]; split <;> omega
      refine ⟨_, rfl, _, rfl, p, q, T, n + 2 + 20 * i, ks.map (·.1), rfl, hPc, by omega, hTp, hTq, hTc, fun z hz => ?_, by rw [List.length_map]; omega, fun z H5 hz hzn g5 P5 => ?_⟩
      · obtain ⟨k0, hk0, rfl⟩ := List.mem_map.mp hz
        exact (hall k0 hk0).1
      have hT5 := g5.keep _ _ hTp hTq hTc
      refine ⟨_, rfl, .inl ⟨rfl, _, SqL.of hT5⟩, _, rfl, T, _, _, rfl, rfl, hT5, ?_, ?_⟩
      · rw [List.length_map, List.length_map, sizeLine_eq]
        omega
      generalize hH6 : L2.upd H5 T (.lst ((ks.map (·.1)).map V.str ++ [V.str z])) = H6
      have hT6 : H6 T = some (.lst (((ks.map (·.1)).map V.str) ++ [V.str z])) := by rw [← hH6]; exact upd_same
      have k6 : ∀ {b : Addr} {o : HO}, b ≠ T → H5 b = some o → H6 b = some o := fun hb e => by rw [← hH6, upd_ne hb]; exact e
      have hR6 := k6 hRT (g5.keep _ _ hRp hRq hRc)
      have hM6 := k6 hTM.symm (g5.keep _ _ hMp hMq hMc)
      have P6 : Pool H6 p q (n + 2 + 20 * i + 16) := by rw [← hH6]; exact P5.upd hTp hTq
      have g06 : Grow p q H H6 := by rw [← hH6]; exact (gr.trans g5).upd (.inl hTH)
      have hrw6 : Rows (newer H H6) vs (ks.map kv) := by
        rw [← hH6]
        exact rows_wr (Rows.keeps hrw (newer_grow g5 hP.dp hP.dq)) hT5 (fun xs z => by cases z)
      refine ⟨_, rfl, .inl ⟨rfl, _, SqL.of hR6⟩, _, rfl, _, rfl, _, rfl, M, _, 0, .int la, rfl, rfl, SqL.of hM6, atI_nat (j := 0) rfl, p, q, _, la, rfl, P6, by omega, hla1.1, by omega, fun c H7 c0 c1 g7 P7 => ?_⟩
      refine ⟨_, rfl, _, rfl, M, _, 1, .int lb, rfl, rfl, SqL.of (g7.keep _ _ hMp hMq hM6), atI_nat (j := 1) rfl, p, q, _, lb, rfl, P7, by omega, hlb1.1, by omega, fun d H8 d0 d1 g8 P8 => ?_⟩
      have g68 : Grow p q H6 H8 := g7.trans g8
      have hR8 := g68.keep _ _ hRp hRq hR6
      refine ⟨(by show 3 ≤ sizeLine; decide), fun t ht => ⟨R, vs, _, rfl, rfl, by rw [upd_ne (ne_of_none hR8 ht)]; exact hR8, ?_, ?_⟩⟩
      · have e1 := hrw.length
        rw [List.length_map] at e1
        rw [sizeLine_eq]
        omega
      have g08 : Grow p q H H8 := g06.trans g68
      have htH := free g08 ht
      have htp := ne_dom ht P8.dp
      have htq := ne_dom ht P8.dq
      have hM8 := g68.keep _ _ hMp hMq hM6
      have hT8 := g68.keep _ _ hTp hTq hT6
      refine ⟨⟨_, _, _, _, _, rfl⟩, (g08.upd (.inl htH)).upd (.inl hRH), ((P8.upd htp htq).upd hRp hRq).le (by omega), ?_, ks ++ [(z, c, d)], _, ?_, ?_, upd_same, ?_, ?_, ?_⟩
      · rw [upd_ne hRM.symm, upd_ne (ne_of_none hM8 ht)]
        exact hM8
      · rw [List.length_append, hkl]
        rfl
      · rw [upd_ne hRT.symm, upd_ne (ne_of_none hT8 ht), hT8, List.map_append, List.map_append]
        rfl
      · rw [List.map_append]
        exact rows_app (xs := kv (z, c, d)) (Rows.keeps hrw6 (newer_grow g68 hP.dp hP.dq)) hR8 ht htH
      · rw [List.map_append]
        refine List.nodup_append.mpr ⟨hnd, by simp, fun y hy y' hy' => ?_⟩
        have e : y' = z := by simpa using hy'
        rw [e]
        exact fun e2 => hzn (by rw [← e2]; exact hy)
      · intro k0 hk0
        rcases List.mem_append.mp hk0 with h | h
        · exact hall k0 h
        · have e : k0 = (z, c, d) := by simpa using h
          subst e
          exact ⟨hz, c0, c1, d0, d1⟩
    rintro σ Hc ⟨⟨v6, v7, v8, v9, v10, rfl⟩, gr, hPc, hMc, ks, vs, hkl, hTc, hRc, hrw, hnd, hall⟩
    -- the pairs
    obtain ⟨ns, hns⟩ : ∃ ns, ns = ks.map (·.1) := ⟨_, rfl⟩
    rw [← hns] at hTc hnd
    have hnl : ns.length = j + 1 := by rw [hns, List.length_map]; exact hkl
    have hnsm : ∀ z ∈ ns, z ∈ ks.map (·.1) := fun z hz => by rw [← hns]; exact hz
    have en2 : (((1 : Int) + (j : Int)) * (1 + (j : Int))).toNat = (j + 1) * (j + 1) := by rw [hsq]; exact Int.toNat_natCast _
    refine ⟨_, rfl, _, rfl, _, _, rfl, rfl, .inl ⟨by omega, by omega⟩, _, rfl, by rw [hsq]; omega, by rw [hsq]; omega, fun L hL => ?_⟩
    rw [en2]
    have hLp := ne_dom hL hPc.dp
    have hLq := ne_dom hL hPc.dq
    have hLR : R ≠ L := ne_of_none hRc hL
    have hLH := free gr hL
    have hprl : (prs ns).length = (j + 1) * (j + 1) := by unfold prs; rw [List.length_map, List.length_range, hnl]
    refine lcy walk_range0 (fun i Hd => Same Hc Hd ∧ ∃ ps, Hd L = some (.lst ps) ∧ Rows (newer H Hd) ps (((prs ns).take i).map prv)) ⟨same_upd hL, [], upd_same, .nil⟩ (fun _ _ _ _ => True.intro) ?_ ?_
    · rintro i x _ Hd hi ⟨sd, ps, hLd, hpw⟩ ⟨rfl, rfl⟩
      have hTd := sd _ _ hTc
      have hd1 : (i : Int) / (1 + (j : Int)) = ((i / (j + 1) : Nat) : Int) := by rw [hs1]; rfl
      have hd2 : (i : Int) % (1 + (j : Int)) = ((i % (j + 1) : Nat) : Int) := by rw [hs1]; rfl
      have hl1 : i / (j + 1) < ns.length := by rw [hnl]; exact Nat.div_lt_of_lt_mul hi
      have hl2 : i % (j + 1) < ns.length := by rw [hnl]; exact Nat.mod_lt _ (by omega)
      have hpi : (prs ns)[i]? = some (ns.getD (i / (j + 1)) ⟨#[]⟩, ns.getD (i % (j + 1)) ⟨#[]⟩) := by
        unfold prs
        rw [List.getElem?_map, List.getElem?_range (by rw [hnl]; exact hi), hnl]
        rfl
      refine ⟨rfl, _, rfl, _, rfl, _, rfl, _, _, rfl, rfl, ⟨by omega, by omega⟩, T, _, _, .str (ns.getD (i / (j + 1)) ⟨#[]⟩), rfl, rfl, SqL.of hTd, ?_, _, rfl, _, rfl, _, rfl, _, _, rfl, rfl, (by show (0 : Int) < 1 + (j : Int); omega), T, _, _, .str (ns.getD (i % (j + 1)) ⟨#[]⟩), rfl, rfl, SqL.of hTd, ?_, (by show 2 ≤ sizeLine; decide), fun t ht => ⟨ps, by rw [upd_ne (ne_of_none hLd ht)]; exact hLd, ?_, same_up (same_up sd (Same.free sd ht)) hL, _, upd_same, ?_⟩⟩
      · rw [hd1]
        exact atI_nat (by rw [List.getElem?_map, getD_of hl1]; rfl)
      · rw [hd2]
        exact atI_nat (by rw [List.getElem?_map, getD_of hl2]; rfl)
      · have e1 := hpw.length
        rw [List.length_map, List.length_take] at e1
        rw [sizeLine_eq]
        omega
      · rw [take_snoc hpi, List.map_append]
        exact rows_app (xs := prv (ns.getD (i / (j + 1)) ⟨#[]⟩, ns.getD (i % (j + 1)) ⟨#[]⟩)) hpw hLd ht (free gr (Same.free sd ht))
    rintro Hd ⟨sd, ps, hLd, hpw⟩
    rw [← hprl, List.take_length] at hpw
    have hRd := sd _ _ hRc
    have Pd := hPc.keeps sd
    have gd : Grow p q H Hd := gr.trans (Grow.of sd)
    have hrwd : Rows (newer H Hd) vs (ks.map kv) := Rows.keeps hrw (newer_same sd)
    refine ⟨(by show 0 ≤ sizeLine; decide), fun Y hY => ?_⟩
    have hYp := ne_dom hY Pd.dp
    have hYq := ne_dom hY Pd.dq
    have hYL : L ≠ Y := ne_of_none hLd hY
    have hYR : R ≠ Y := ne_of_none hRd hY
    have hYH := free gd hY
    have sY : Same Hd (L2.upd Hd Y (.lst [])) := same_upd hY
    refine ⟨_, rfl, _, rfl, by omega, by omega, ?_⟩
    rw [Int.toNat_natCast]
    refine for_it walk_range0 (fun i σ He => (∃ v6 v7 v10 : Option V, σ = [some (.ref p), some (.int (1 + (j : Int))), some (.int (m : Int)), some (.ref M), some (.ref T), some (.ref R), v6, v7, some (.ref L), some (.ref Y), v10]) ∧ Grow p q H He ∧ Pool He p q (n + 2 + 20 * (j + 1) + 3 * i) ∧ He R = some (.lst vs) ∧ Rows (newer H He) vs (ks.map kv) ∧
        ∃ (as : List (Str × Str × Int)) (pl : List (Str × Str)) (ps ys : List V), as.length = i ∧ He L = some (.lst ps) ∧ Rows (newer H He) ps (pl.map prv) ∧ He Y = some (.lst ys) ∧ Rows (newer H He) ys (as.map av) ∧ ((as.map fun a => (a.1, a.2.1)) ++ pl).Perm (prs ns) ∧ ∀ a ∈ as, 1 ≤ a.2.2 ∧ a.2.2 ≤ 12)
      ⟨⟨_, _, _, rfl⟩, gd.trans (Grow.of sY), (Pd.keeps sY).le (by omega), sY _ _ hRd, Rows.keeps hrwd (newer_same sY), [], prs ns, ps, [], rfl, sY _ _ hLd, Rows.keeps hpw (newer_same sY), upd_same, .nil, List.Perm.refl _, fun a ha => by cases ha⟩ (fun _ _ _ _ _ => True.intro) ?_ ?_
    · rintro i x σ _ He hi ⟨⟨v6, v7, v10, rfl⟩, ge, hPe, hRe, hrwe, as, pl, ps, ys, hal, hLe, hpwe, hYe, hyw, hperm, hgap⟩ ⟨rfl, rfl⟩
      have hpl : ps.length = pl.length := by rw [hpwe.length, List.length_map]
      have hcnt : i + pl.length = (j + 1) * (j + 1) := by
        have := hperm.length_eq
        rw [List.length_append, List.length_map, hal, hprl] at this
        exact this
      refine ⟨_, rfl, .inl ⟨rfl, _, SqL.of hLe⟩, _, rfl, _, rfl, L, ps, rfl, .inl (SqL.of hLe), p, q, n + 2 + 20 * (j + 1) + 3 * i, _, rfl, hPe, by omega, by omega, by omega, fun v H5 c0 c1 g5 P5 => ?_⟩
      obtain ⟨c, rfl⟩ := Int.eq_ofNat_of_zero_le c0
      have hcl : c < pl.length := by omega
      obtain ⟨pr, hpr⟩ : ∃ pr, pl[c]? = some pr := ⟨_, List.getElem?_eq_getElem hcl⟩
      have hL5 := g5.keep _ _ hLp hLq hLe
      have hpw5 : Rows (newer H H5) ps (pl.map prv) := Rows.keeps hpwe (newer_grow g5 hP.dp hP.dq)
      obtain ⟨v, hv, t, rfl, ht⟩ := hpw5.get' (i := c) (b := prv pr) (by rw [List.getElem?_map, hpr]; rfl)
      refine ⟨L, ps, (c : Int), c, .ref t, rfl, rfl, hL5, by omega, by omega, ?_, hv, ?_⟩
      · unfold seqIndex?
        simp
        omega
      generalize hH6 : L2.upd H5 L (.lst (ps.eraseIdx c)) = H6
      have hL6 : H6 L = some (.lst (ps.eraseIdx c)) := by rw [← hH6]; exact upd_same
      have k6 : ∀ {b : Addr} {o : HO}, b ≠ L → H5 b = some o → H6 b = some o := fun hb e => by rw [← hH6, upd_ne hb]; exact e
      have w6 : ∀ {us : List V} {xss : List (List V)}, Rows (newer H He) us xss → Rows (newer H H6) us xss := fun h => by
        rw [← hH6]
        exact rows_wr (Rows.keeps h (newer_grow g5 hP.dp hP.dq)) hL5 (fun xs z => by cases z)
      have hR6 := k6 hLR (g5.keep _ _ hRp hRq hRe)
      have hY6 := k6 hYL.symm (g5.keep _ _ hYp hYq hYe)
      have P6 : Pool H6 p q (n + 2 + 20 * (j + 1) + 3 * i + 1) := by rw [← hH6]; exact P5.upd hLp hLq
      have g06 : Grow p q H H6 := by rw [← hH6]; exact (ge.trans g5).upd (.inl hLH)
      have ht6 : H6 t = some (.tup (prv pr)) := by
        have ht5 := newer_sub _ _ _ _ ht
        exact k6 (ne_of ht5 hL5 (by intro z; cases z)) ht5
      refine ⟨_, rfl, .inl ⟨rfl, _, SqL.of hY6⟩, _, rfl, t, _, 0, .str pr.1, rfl, rfl, SqT.of ht6, atI_nat (j := 0) rfl, _, rfl, t, _, 1, .str pr.2, rfl, rfl, SqT.of ht6, atI_nat (j := 1) rfl, _, rfl, p, q, _, 12, rfl, P6, by omega, by decide, by decide, fun d H7 d0 d1 g7 P7 => ?_⟩
      have hY7 := g7.keep _ _ hYp hYq hY6
      have hR7 := g7.keep _ _ hRp hRq hR6
      have hL7 := g7.keep _ _ hLp hLq hL6
      refine ⟨(by show 3 ≤ sizeLine; decide), fun t3 ht3 => ⟨Y, ys, _, rfl, rfl, by rw [upd_ne (ne_of_none hY7 ht3)]; exact hY7, ?_, ?_⟩⟩
      · have e1 := hyw.length
        rw [List.length_map] at e1
        rw [sizeLine_eq]
        omega
      have g07 : Grow p q H H7 := g06.trans g7
      have htH := free g07 ht3
      have w7 : ∀ {us : List V} {xss : List (List V)}, Rows (newer H He) us xss → Rows (newer H (L2.upd (L2.upd H7 t3 (.tup [.str pr.1, .str pr.2, .int d])) Y (.lst (ys ++ [.ref t3])))) us xss := fun h => by
        have h7 := Rows.keeps (Rows.keeps (w6 h) (newer_grow g7 hP.dp hP.dq)) (newer_same (same_upd (o := .tup [.str pr.1, .str pr.2, .int d]) ht3))
        exact rows_wr h7 (by rw [upd_ne (ne_of_none hY7 ht3)]; exact hY7) (fun xs z => by cases z)
      refine ⟨⟨_, _, _, rfl⟩, (g07.upd (.inl htH)).upd (.inl hYH), ((P7.upd (ne_dom ht3 P7.dp) (ne_dom ht3 P7.dq)).upd hYp hYq).le (by omega), ?_, w7 hrwe, as ++ [(pr.1, pr.2, d)], pl.eraseIdx c, ps.eraseIdx c, _, ?_, ?_, ?_, upd_same, ?_, ?_, ?_⟩
      · rw [upd_ne hYR, upd_ne (ne_of_none hR7 ht3)]
        exact hR7
      · rw [List.length_append, hal]
        rfl
      · rw [upd_ne hYL, upd_ne (ne_of_none hL7 ht3)]
        exact hL7
      · rw [← map_erase]
        exact (w7 hpwe).erase c
      · rw [List.map_append]
        exact rows_app (xs := av (pr.1, pr.2, d)) (Rows.keeps (w6 hyw) (newer_grow g7 hP.dp hP.dq)) hY7 ht3 htH
      · rw [List.map_append, List.append_assoc]
        exact (List.Perm.append_left _ (erase_perm hpr)).trans hperm
      · intro a ha
        rcases List.mem_append.mp ha with h | h
        · exact hgap a h
        · have e : a = (pr.1, pr.2, d) := by simpa using h
          subst e
          exact ⟨d0, d1⟩
    rintro σ He ⟨⟨v6, v7, v10, rfl⟩, ge, hPe, hRe, hrwe, as, pl, ps, ys, hal, hLe, hpwe, hYe, hyw, hperm, hgap⟩
    refine ⟨_, rfl, p, q, _, rfl, hPe, by omega, fun z H9 hz g9 P9 => ?_⟩
    have hR9 := g9.keep _ _ hRp hRq hRe
    have hY9 := g9.keep _ _ hYp hYq hYe
    have g09 := ge.trans g9
    have n9 := newer_grow (H := H) g9 hP.dp hP.dq
    have ndp : ((as.map fun a => (a.1, a.2.1)) ++ pl).Nodup := hperm.nodup_iff.mpr (prs_nodup hnd)
    have hmem : ∀ a ∈ as, a.1 ∈ ks.map (·.1) ∧ a.2.1 ∈ ks.map (·.1) := fun a ha => by
      have h1 : (a.1, a.2.1) ∈ (as.map fun a => (a.1, a.2.1)) ++ pl := List.mem_append_left _ (List.mem_map.mpr ⟨a, ha, rfl⟩)
      have h2 := prs_mem (hperm.mem_iff.mp h1)
      exact ⟨hnsm _ h2.1, hnsm _ h2.2⟩
    refine ⟨_, rfl, _, rfl, (by show 3 ≤ sizeLine; decide), fun t ht => ?_⟩
    have st : Same H9 (L2.upd H9 t (.tup [.str z, .ref R, .ref Y])) := same_upd ht
    refine k _ t ks as (g09.trans (Grow.of st)) ((P9.keeps st).le (by omega)) ⟨z, R, Y, newer_at (free g09 ht) upd_same, hz, ?_, ?_⟩ ?_
    · exact ⟨vs, newer_at hRH (st _ _ hR9), Rows.keeps (Rows.keeps hrwe n9) (newer_same st)⟩
    · exact ⟨ys, newer_at hYH (st _ _ hY9), Rows.keeps (Rows.keeps hyw n9) (newer_same st)⟩
    · refine ⟨by rw [← hns]; exact hnd, by omega, by omega, fun k0 hk0 => (hall k0 hk0).1, fun k0 hk0 => ?_, by omega, hgap, hmem, (List.nodup_append.mp ndp).1⟩
      obtain ⟨_, h1, h2, h3', h4⟩ := hall k0 hk0
      rw [hla] at h2
      rw [hlb] at h4
      have hm0 : (as = []) ↔ m = 0 := by rw [← hal, List.length_eq_zero_iff]
      by_cases hm : m = 0
      · rw [if_pos hm] at h2 h4
        rw [if_pos (hm0.mpr hm), if_pos (hm0.mpr hm)]
        exact ⟨h1, h2, h3', h4⟩
      · rw [if_neg hm] at h2 h4
        rw [if_neg (fun z => hm (hm0.mp z)), if_neg (fun z => hm (hm0.mp z))]
        exact ⟨h1, h2, h3', h4⟩
end
end WD
/-! the law's walks -/
namespace WD
open PySem PySem.Spec PyProof.Rows L2
abbrev sWalk : Stmt := top 50
def w4 (ks : List (Str × Int × Int)) (g : Int) (j : Str × Int × Int) : List V := [.str j.1, .int j.2.1, .int j.2.2, .int (due ks g j)]
def spWalk : Sp := fun vs H Q _ => ∃ (p q st : Addr) (n : Nat) (g : Int) (ks : List (Str × Int × Int)) (as : List (Str × Str × Int)) (H0 : Hp), vs = [.ref p, .ref st, .int g] ∧ Pool H p q n ∧ n < 600000000 ∧ H0 p ≠ none ∧ H0 q ≠ none ∧ SpecAt (newer H0 H) st ks as ∧ TaskOk ks as ∧ 1 ≤ g ∧ g ≤ 60 ∧
  ∀ H' l w, Grow p q H H' → Pool H' p q (n + 51) → LRows (newer H H') l (w.map (w4 ks g)) → WalkOk ks as g w → w.length ≤ 8 → (∀ j ∈ w, due ks g j ≤ 300 * g) → Q (.ref l) H'
def atd (a : Str × Str × Int) : PyData := .tuple [.str a.1, .str a.2.1, .int a.2.2]
theorem dp_arrows {K : PySem.W.Frag} {H : Hp} : ∀ {vs : List V} {as : List (Str × Str × Int)}, Rows H vs (as.map av) → DpAll K H vs (as.map atd)
  | _, [], .nil => .nil
  | _, a :: as, .cons ⟨t, e, ht⟩ r => by
    subst e
    exact .cons (Dp.tup (SqT.of ht) (.cons (.str _) (.cons (.str _) (.cons (.int _) .nil)))) (dp_arrows r)
theorem atds_lay : ∀ {as : List (Str × Str × Int)}, (∀ a ∈ as, NameOk a.1 ∧ NameOk a.2.1) → PyData.canLayAll0 (as.map atd) = true
  | [], _ => by simp [PyData.canLayAll0]
  | a :: as, h => by
    have h1 := h a (List.mem_cons_self ..)
    have h2 := atds_lay (as := as) fun b hb => h b (List.mem_cons_of_mem _ hb)
    simp [PyData.canLayAll0, PyData.canLay0, atd, h1.1.sOk, h1.2.sOk, h2]
theorem atds_depth : ∀ as : List (Str × Str × Int), PyData.depthAll (as.map atd) ≤ 1
  | [] => by simp [PyData.depthAll]
  | a :: as => by
    have := atds_depth as
    simp only [List.map_cons, PyData.depthAll, atd, PyData.depth]
    omega
theorem atds_shaped {as : List (Str × Str × Int)} (h : ∀ a ∈ as, NameOk a.1 ∧ NameOk a.2.1) : SeqAt.shaped (.list (as.map atd)) = true := by
  have h1 := atds_depth as
  have h2 : PyData.depth (.list (as.map atd)) ≤ 64 := by
    simp only [PyData.depth]
    omega
  show (PyData.canLay0 (.list (as.map atd)) && decide (PyData.depth (.list (as.map atd)) ≤ 64)) = true
  rw [Bool.and_eq_true]
  exact ⟨by simp only [PyData.canLay0, atds_lay h], decide_eq_true h2⟩
theorem atds_eqv_nil : ∀ as : List (Str × Str × Int), PyData.eqv (.list (as.map atd)) (.list []) = decide (as = [])
  | [] => by simp [PyData.eqv, PyData.eqvAll]
  | n :: ns => by simp [PyData.eqv, PyData.eqvAll]
section
variable {P : Program} {w : World} {K : PySem.W.Frag} {mg : Str → Option Value} {base : Heap}
theorem scWalk : FnScope ["_law_pool_here", "_law_spec_here", "_law_parts", "_law_walk_here", "_law_word", "_law_moment", "_law_k", "_law_row", "_law_full", "_law_cost", "_law_ways", "_law_way", "_law_other", "_law_tie"] ["_law_pool_here", "_law_spec_here", "_law_parts"] (defScope sWalk) := ⟨rfl, rfl, rfl, by decide +kernel, rfl, by decide +kernel, by decide +kernel⟩
theorem ok_walk {fa : Addr} {fd : FuncData} (F : Fun K "_law_walk" "_law_walk" sWalk fa fd) (g : Gs mg) (cD : Cal P w K mg base "_law_draw" 1 ["_law_pool_here", "_law_limit"] spDraw) : FnOk P w K mg base CX0 2 fa fd ["_law_pool_here", "_law_spec_here", "_law_parts"] spWalk := by
  refine F.ok scWalk (fun vs H Q E h => ?_) (fun cdv A outer s H vs Q E hr h => ?_)
  · obtain ⟨p, q, st, n, g, ks, as, H0, rfl, _⟩ := h
    rfl
  · obtain ⟨p, q, st, n, gr, ks, as, H0, rfl, hP, hn, h0p, h0q, hS, ok, hg1, hg2, k⟩ := h
    have hu : _ := Nat.lt_of_succ_lt (room65 hr)
    refine ⟨_, pss_cons (ps_set (i := 3) scWalk.nd rfl (Or.inl rfl) (pe_lst pa_nil))
      (pss_cons (ps_set (i := 4) scWalk.nd rfl (Or.inr rfl) (pe_ix (ixT K) (pe_ix (ixL K) (pe_ix (ixT K) (pv 1) pe_int (fun _ _ => rfl)) (pc cD hr (pa_cons (pv 0) (pa_cons (pe_callB (lenS K) (by rfl) g.len PySem.boot_len (pa_cons (pe_ix (ixT K) (pv 1) pe_int (fun _ _ => rfl)) pa_nil)) pa_nil))) (fun _ _ => rfl)) pe_int (fun _ _ => rfl)))
      (pss_cons (ps_set (i := 5) scWalk.nd rfl (Or.inl rfl) (pc cD hr (pa_cons (pv 0) (pa_cons (pe_op op_mul pe_int (pv 2)) pa_nil))))
      (pss_cons (ps_for PassesOwn.never rfl (pi_range1 rfl g.range (pa_cons (pc cD hr (pa_cons (pv 0) (pa_cons pe_int pa_nil))) pa_nil)) (pg_name (i := 6) scWalk.nd rfl (Or.inl rfl))
        (pss_cons (ps_set (i := 7) scWalk.nd rfl (Or.inl rfl) (pe_ix (ixL K) (pe_lc (own := [("_law_other", 12)]) rfl scWalk.nd (piL K (pe_ix (ixT K) (pv 1) pe_int (fun _ _ => rfl))) (blkOk_by (N := ["_law_pool_here", "_law_spec_here", "_law_parts", "_law_walk_here", "_law_word", "_law_moment", "_law_k", "_law_row", "_law_full", "_law_cost", "_law_ways", "_law_way", "_law_other", "_law_tie"]) (sc := defScope sWalk) (by decide +kernel))
            (fun _ _ _ _ _ => pg_name (i := 12) scWalk.nd rfl (Or.inl rfl)) (fun _ _ _ _ _ => pts_one (pt_cmpR op_eq (pe_ix (ixT K) (pv 12) pe_int (fun _ _ => rfl)) (pv 4) (nomark _))) (fun _ _ _ _ _ => pv 12)) pe_int (fun _ _ => rfl)))
        (pss_cons (ps_set (i := 8) scWalk.nd rfl (Or.inl rfl) (pe_op op_mul (pe_ix (ixT K) (pv 7) pe_int (fun _ _ => rfl)) (pv 2)))
        (pss_cons (ps_set (i := 9) scWalk.nd rfl (Or.inl rfl) (pe_ix (ixL K) (pe_lst (pa_cons (pv 8) (pa_cons (pv 8) (pa_cons (pe_op op_add pe_int (pc cD hr (pa_cons (pv 0) (pa_cons (pv 8) pa_nil)))) pa_nil)))) (pc cD hr (pa_cons (pv 0) (pa_cons pe_int pa_nil))) (fun _ _ => rfl)))
        (pss_cons (ps_expr (pe_bm PySem.F.plainAttrs_list PySem.F.slot_list_append PySem.F.type_list_append mt_append (pv 3) (pa_cons (pe_tup (pa_cons (pv 4) (pa_cons (pv 5) (pa_cons (pv 9) (pa_cons (pe_op op_add (pv 5) (pe_op op_mul (pe_ix (ixT K) (pv 7) pe_int (fun _ _ => rfl)) (pv 2))) pa_nil))))) pa_nil)))
        (pss_cons (ps_setLc (i := 10) rfl scWalk.nd rfl rfl (sw_true rfl rfl rfl (by decide +kernel)) (own := [("_law_tie", 13)]) (piL K (pe_ix (ixT K) (pv 1) pe_int (fun _ _ => rfl))) (blkOk_by (N := ["_law_pool_here", "_law_spec_here", "_law_parts", "_law_walk_here", "_law_word", "_law_moment", "_law_k", "_law_row", "_law_full", "_law_cost", "_law_ways", "_law_way", "_law_other", "_law_tie"]) (sc := defScope sWalk) (by decide +kernel))
            (fun _ _ _ _ _ => pg_name (i := 13) scWalk.nd rfl (Or.inl rfl)) (fun _ _ _ _ _ => pts_one (pt_cmpR op_eq (pe_ix (ixT K) (pv 13) pe_int (fun _ _ => rfl)) (pv 4) (nomark _))) (fun _ _ _ _ _ => pv 13))
        (pss_cons (ps_if (pt_cmpR (op_eqD hu) (pv 10) (pe_lst pa_nil) (nomark _)) (pss_one (ps_ret (pv 3))) pss_nil)
        (pss_cons (ps_set (i := 11) scWalk.nd rfl (Or.inl rfl) (pe_ix (ixL K) (pv 10) (pc cD hr (pa_cons (pv 0) (pa_cons (pe_callB (lenS K) (by rfl) g.len PySem.boot_len (pa_cons (pv 10) pa_nil)) pa_nil))) (fun _ _ => rfl)))
        (pss_cons (ps_set (i := 4) scWalk.nd rfl (Or.inr rfl) (pe_ix (ixT K) (pv 11) pe_int (fun _ _ => rfl)))
        (pss_one (ps_set (i := 5) scWalk.nd rfl (Or.inl rfl) (pe_op op_add (pe_op op_add (pv 5) (pe_op op_mul (pe_ix (ixT K) (pv 11) pe_int (fun _ _ => rfl)) (pv 2)))
          (pe_ix (ixL K) (pe_lst (pa_cons pe_int (pa_cons pe_int (pa_cons pe_int (pa_cons (pc cD hr (pa_cons (pv 0) (pa_cons (pe_op op_mul pe_int (pv 2)) pa_nil))) pa_nil))))) (pc cD hr (pa_cons (pv 0) (pa_cons pe_int pa_nil))) (fun _ _ => rfl))))))))))))))
      (pss_one (ps_ret (pv 3)))))), ?_⟩
    obtain ⟨nm, R, Y, hst, hnm, ⟨us, hus, hur⟩, ys, hys, hyr⟩ := hS
    have sx : ∀ {Hx : Hp}, Grow p q H Hx → Same (newer H0 H) Hx := fun gx => (newer_grow gx h0p h0q).trans (newer_sub _ _)
    have hul : us.length = ks.length := by rw [hur.length, List.length_map]
    have hyl : ys.length = as.length := by rw [hyr.length, List.length_map]
    have hk4 := ok.k4
    have hk1 := ok.k1
    have ha12 := ok.a12
    refine ⟨(by show 0 ≤ sizeLine; decide), fun W hW => ?_⟩
    have hWp := ne_dom hW hP.dp
    have hWq := ne_dom hW hP.dq
    generalize hH1 : L2.upd H W (.lst []) = H1
    have s1 : Same H H1 := by rw [← hH1]; exact same_upd hW
    have hW1 : H1 W = some (.lst []) := by rw [← hH1]; exact upd_same
    have g1 : Grow p q H H1 := Grow.of s1
    refine ⟨_, rfl, st, _, 1, .ref R, rfl, rfl, SqT.of (sx g1 _ _ hst), atI_nat (j := 1) rfl, _, rfl, _, rfl, st, _, 1, .ref R, rfl, rfl, SqT.of (sx g1 _ _ hst), atI_nat (j := 1) rfl, R, us, rfl, .inl (SqL.of (sx g1 _ _ hus)), p, q, n, _, rfl, hP.keeps s1, by omega, by omega, by omega, fun v1 H2 a0 a1 g2 P2 => ?_⟩
    obtain ⟨i0, rfl⟩ := Int.eq_ofNat_of_zero_le a0
    have g12 := g1.trans g2
    obtain ⟨k0, hk0⟩ : ∃ k0, ks[i0]? = some k0 := ⟨_, List.getElem?_eq_getElem (by omega)⟩
    obtain ⟨v, hv, t0, rfl, ht0⟩ := hur.get' (i := i0) (b := kv k0) (by rw [List.getElem?_map, hk0]; rfl)
    refine ⟨R, us, (i0 : Int), .ref t0, rfl, rfl, SqL.of (sx g12 _ _ hus), atI_nat hv, t0, _, 0, .str k0.1, rfl, rfl, SqT.of (sx g12 _ _ ht0), atI_nat (j := 0) rfl, ?_⟩
    refine ⟨_, rfl, _, rfl, _, _, rfl, rfl, .inl ⟨by omega, by omega⟩, p, q, n + 1, _, rfl, P2, by omega, by omega, by omega, fun v2 H3 b0 b1 g3 P3 => ?_⟩
    have g13 := g12.trans g3
    refine ⟨_, rfl, p, q, n + 2, 9, rfl, P3, by omega, by decide, by decide, fun v3 H4 c0 c1 g4 P4 => ?_⟩
    obtain ⟨m, rfl⟩ := Int.eq_ofNat_of_zero_le c0
    have g14 := g13.trans g4
    refine ⟨_, rfl, by omega, by omega, ?_⟩
    rw [Int.toNat_natCast]
    have hW4 : H4 W = some (.lst []) := ((g2.trans g3).trans g4).keep _ _ hWp hWq hW1
    refine for_it walk_range0 (fun i σ Hc => ∃ (v6 v7 v8 v9 v10 v11 v12 v13 : Option V) (kw : Str × Int × Int) (mo : Int) (w : List (Str × Int × Int)) (ws : List V), σ = [some (.ref p), some (.ref st), some (.int gr), some (.ref W), some (.str kw.1), some (.int mo), v6, v7, v8, v9, v10, v11, v12, v13] ∧ kw ∈ ks ∧ 0 ≤ mo ∧ mo ≤ (3 + 14 * (i : Int)) * gr ∧
        Grow p q H Hc ∧ Pool Hc p q (n + 3 + 5 * i) ∧ Hc W = some (.lst ws) ∧ Rows (newer H Hc) ws (w.map (w4 ks gr)) ∧ w.length = i ∧ WalkOk ks as gr w ∧ (∀ a, w.getLast? = some a → ∀ c, Step as gr a (kw.1, mo, c)) ∧ ∀ j ∈ w, due ks gr j ≤ 300 * gr)
      ⟨_, _, _, _, _, _, _, _, k0, v2, [], [], rfl, List.mem_of_getElem? hk0, b0, (by omega), g14, P4.le (by omega), hW4, .nil, rfl, ⟨(fun j hj => by simp at hj), Adj.nil⟩, (fun a h => by simp at h), (fun j hj => by simp at hj)⟩ (fun _ _ _ _ _ => True.intro) ?_ ?_
    · rintro i x σ _ Hc hi ⟨v6, v7, v8, v9, v10, v11, v12, v13, kw, mo, w, ws, rfl, hkw, hmo0, hmo1, gc, hPc, hWc, hrw, hwl, hwo, hstep, hdue⟩ ⟨rfl, rfl⟩
      obtain ⟨hr1, hr2, hr3, hr4⟩ := ok.rg kw hkw
      have hc99 : kw.2.1 ≤ 99 := by
        split at hr2 <;> omega
      have hd99 : kw.2.2 ≤ 99 := by
        split at hr4 <;> omega
      -- the row
      refine ⟨_, rfl, st, _, 1, .ref R, rfl, rfl, SqT.of (sx gc _ _ hst), atI_nat (j := 1) rfl, R, rfl, ⟨_, SqL.of (sx gc _ _ hus)⟩, fun D hD => ?_⟩
      refine lc_it (walk_list (K := K) (a := R) (xs := us)) (fun e Hd => Same Hc Hd ∧ ∃ vs, Hd D = some (.lst vs) ∧ Rows (newer H0 H) vs (((ks.take e).filter fun k => decide (k.1 = kw.1)).map kv)) ⟨same_upd hD, [], upd_same, .nil⟩ (fun e Hd _ h => SqL.of (h.1 _ _ (sx gc _ _ hus))) ?_ ?_
      · rintro e x _ Hd he ⟨sd, vs, hDd, hrr⟩ ⟨rfl, hx⟩
        obtain ⟨xs, hxs, t, rfl, ht⟩ := hur.get hx
        rw [List.getElem?_map] at hxs
        obtain ⟨k', hk', rfl⟩ := Option.map_eq_some_iff.mp hxs
        refine ⟨rfl, _, rfl, t, _, 0, .str k'.1, rfl, rfl, SqT.of (sd _ _ (sx gc _ _ ht)), atI_nat (j := 0) rfl, _, rfl, rfl, _, rfl, ?_⟩
        by_cases hq : k'.1 = kw.1
        · refine ifT (decide_eq_true (by rw [hq])) ⟨_, rfl, vs, hDd, ?_, same_up sd hD, _, upd_same, ?_⟩
          · have e1 := hrr.length
            have e2 := List.length_filter_le (fun k : Str × Int × Int => decide (k.1 = kw.1)) (ks.take e)
            rw [List.length_map] at e1
            rw [List.length_take] at e2
            rw [sizeLine_eq]
            omega
          · rw [take_snoc hk', List.filter_append, List.filter_cons_of_pos (by simpa using hq), List.map_append]
            exact hrr.snoc ⟨t, rfl, ht⟩
        · refine ifF (decide_eq_false (fun z => hq (by injection z))) ⟨sd, vs, hDd, ?_⟩
          rw [take_snoc hk', List.filter_append, List.filter_cons_of_neg (by simpa using hq), List.filter_nil, List.append_nil]
          exact hrr
      rintro Hd ⟨sd, vs, hDd, hrr⟩
      rw [hul, List.take_length] at hrr
      have hf0 : (ks.filter fun k => decide (k.1 = kw.1))[0]? = some kw := by
        have hm : kw ∈ ks.filter fun k => decide (k.1 = kw.1) := List.mem_filter.mpr ⟨hkw, by simp⟩
        cases e : ks.filter fun k => decide (k.1 = kw.1) with
        | nil => rw [e] at hm; cases hm
        | cons k1 r =>
          have h1 : k1 ∈ ks.filter fun k => decide (k.1 = kw.1) := by rw [e]; exact List.mem_cons_self ..
          obtain ⟨h2, h3⟩ := List.mem_filter.mp h1
          have h4 : k1 = kw := nodup_fst ok.nd h2 hkw (by simpa using h3)
          rw [h4]
          rfl
      obtain ⟨v, hv, t1, rfl, ht1⟩ := hrr.get' (i := 0) (b := kv kw) (by rw [List.getElem?_map, hf0]; rfl)
      have gd : Grow p q H Hd := gc.trans (Grow.of sd)
      have Pd := hPc.keeps sd
      refine ⟨D, _, 0, .ref t1, rfl, rfl, SqL.of hDd, atI_nat (j := 0) hv, ?_⟩
      have hfu1 : 1 ≤ kw.2.1 * gr := Int.mul_pos hr1 hg1
      have hfu2 : kw.2.1 * gr ≤ 99 * 60 := Int.mul_le_mul hc99 hg2 (by omega) (by decide)
      have hdg2 : kw.2.2 * gr ≤ 99 * gr := Int.mul_le_mul_of_nonneg_right hd99 (by omega)
      refine ⟨_, rfl, t1, _, 1, .int kw.2.1, rfl, rfl, SqT.of (sx gd _ _ ht1), atI_nat (j := 1) rfl, _, rfl, _, _, rfl, rfl, .inl ⟨by omega, by omega⟩, ?_⟩
      refine ⟨_, rfl, _, rfl, _, rfl, _, rfl, p, q, _, kw.2.1 * gr, rfl, Pd, by omega, hfu1, by omega, fun v4 H5 d0 d1 g5 P5 => ⟨_, _, rfl, rfl, (by show 3 ≤ sizeLine; decide), fun CL hCL => ?_⟩⟩
      have sC : Same H5 (L2.upd H5 CL (.lst [.int (kw.2.1 * gr), .int (kw.2.1 * gr), .int (1 + v4)])) := same_upd hCL
      have hCLp := ne_dom hCL P5.dp
      have hCLq := ne_dom hCL P5.dq
      refine ⟨_, rfl, p, q, _, 3, rfl, P5.keeps sC, by omega, by decide, by decide, fun v5 H6 e0 e1 g6 P6 => ?_⟩
      obtain ⟨x, hx1, hx2⟩ : ∃ x, atI [V.int (kw.2.1 * gr), .int (kw.2.1 * gr), .int (1 + v4)] v5 = some (.int x) ∧ (x = kw.2.1 * gr ∨ x = 1 + v4) := by
        obtain ⟨j, rfl⟩ := Int.eq_ofNat_of_zero_le e0
        have hj : j = 0 ∨ j = 1 ∨ j = 2 := by omega
        rcases hj with rfl | rfl | rfl
        · exact ⟨_, atI_nat (j := 0) rfl, .inl rfl⟩
        · exact ⟨_, atI_nat (j := 1) rfl, .inl rfl⟩
        · exact ⟨_, atI_nat (j := 2) rfl, .inr rfl⟩
      have hx3 : 1 ≤ x ∧ x ≤ kw.2.1 * gr := by rcases hx2 with h | h <;> omega
      have g56 : Grow p q Hd H6 := (g5.trans (Grow.of sC)).trans g6
      have g06 : Grow p q H H6 := gd.trans g56
      refine ⟨CL, _, v5, .int x, rfl, rfl, SqL.of (g6.keep _ _ hCLp hCLq upd_same), hx1, ?_⟩
      have hW6 : H6 W = some (.lst ws) := g56.keep _ _ hWp hWq (sd _ _ hWc)
      refine ⟨_, rfl, .inl ⟨rfl, _, SqL.of hW6⟩, _, rfl, _, rfl, _, rfl, _, rfl, _, rfl, t1, _, 2, .int kw.2.2, rfl, rfl, SqT.of (sx g06 _ _ ht1), atI_nat (j := 2) rfl, _, rfl, _, _, rfl, rfl, .inl ⟨by omega, by omega⟩, _, _, rfl, rfl, (by show 4 ≤ sizeLine; decide), fun t4 ht4 => ⟨W, ws, _, rfl, rfl, by rw [upd_ne (ne_of_none hW6 ht4)]; exact hW6, ?_, ?_⟩⟩
      · have e1 := hrw.length
        rw [List.length_map] at e1
        rw [sizeLine_eq]
        omega
      generalize hH8 : L2.upd (L2.upd H6 t4 (.tup [.str kw.1, .int mo, .int x, .int (mo + kw.2.2 * gr)])) W (.lst (ws ++ [.ref t4])) = H8
      have hw6 : Rows (newer H H6) ws (w.map (w4 ks gr)) := Rows.keeps hrw ((newer_same sd).trans (newer_grow g56 hP.dp hP.dq))
      have ht4H : H t4 = none := by
        cases e2 : H t4 with
        | none => rfl
        | some o => exact absurd ht4 (g06.dom t4 (by rw [e2]; simp))
      have g08 : Grow p q H H8 := by rw [← hH8]; exact (g06.upd (.inl ht4H)).upd (.inl hW)
      have P8 : Pool H8 p q (n + 3 + 5 * i + 2) := by rw [← hH8]; exact ((P6.upd (ne_dom ht4 P6.dp) (ne_dom ht4 P6.dq)).upd hWp hWq).le (by omega)
      have hW8 : H8 W = some (.lst (ws ++ [.ref t4])) := by rw [← hH8]; exact upd_same
      have ej : due ks gr (kw.1, mo, x) = mo + kw.2.2 * gr := by
        unfold due
        rw [dlOf_of ok.nd hkw]
      have hw8 : Rows (newer H H8) (ws ++ [.ref t4]) ((w ++ [(kw.1, mo, x)]).map (w4 ks gr)) := by
        rw [← hH8, List.map_append]
        have h := rows_app (xs := w4 ks gr (kw.1, mo, x)) hw6 hW6 ht4 ht4H
        unfold w4 at h ⊢
        simp only [List.map_cons, List.map_nil]
        simp only [ej] at h ⊢
        exact h
      have hwo8 : WalkOk ks as gr (w ++ [(kw.1, mo, x)]) := by
        refine ⟨fun j hj => ?_, Adj.snoc hwo.adj fun a ha => hstep a ha x⟩
        rcases List.mem_append.mp hj with h | h
        · exact hwo.job j h
        · have e : j = (kw.1, mo, x) := by simpa using h
          subst e
          exact ⟨List.mem_map.mpr ⟨kw, hkw, rfl⟩, hmo0, hx3.1, by show x ≤ costOf ks kw.1 * gr; rw [costOf_of ok.nd hkw]; exact hx3.2⟩
      have hi8 : i ≤ 7 := by omega
      have hdue8 : ∀ j ∈ w ++ [(kw.1, mo, x)], due ks gr j ≤ 300 * gr := fun j hj => by
        rcases List.mem_append.mp hj with h | h
        · exact hdue j h
        · have e : j = (kw.1, mo, x) := by simpa using h
          rw [e, ej]
          have h1 : (3 + 14 * (i : Int)) * gr ≤ 101 * gr := Int.mul_le_mul_of_nonneg_right (by omega) (by omega)
          omega
      -- the ways
      refine ⟨_, rfl, st, _, 2, .ref Y, rfl, rfl, SqT.of (sx g08 _ _ hst), atI_nat (j := 2) rfl, Y, rfl, ⟨_, SqL.of (sx g08 _ _ hys)⟩, fun D2 hD2 => ?_⟩
      refine lc_it (walk_list (K := K) (a := Y) (xs := ys)) (fun e Hd => Same H8 Hd ∧ ∃ vs, Hd D2 = some (.lst vs) ∧ Rows (newer H0 H) vs ((foll (as.take e) kw.1).map av)) ⟨same_upd hD2, [], upd_same, .nil⟩ (fun e Hd _ h => SqL.of (h.1 _ _ (sx g08 _ _ hys))) ?_ ?_
      · rintro e x' _ Hd he ⟨sd, vs, hDd, hrr⟩ ⟨rfl, hx⟩
        obtain ⟨xs, hxs, t, rfl, ht⟩ := hyr.get hx
        rw [List.getElem?_map] at hxs
        obtain ⟨a', ha', rfl⟩ := Option.map_eq_some_iff.mp hxs
        refine ⟨rfl, _, rfl, t, _, 0, .str a'.1, rfl, rfl, SqT.of (sd _ _ (sx g08 _ _ ht)), atI_nat (j := 0) rfl, _, rfl, rfl, _, rfl, ?_⟩
        by_cases hq : a'.1 = kw.1
        · refine ifT (decide_eq_true (by rw [hq])) ⟨_, rfl, vs, hDd, ?_, same_up sd hD2, _, upd_same, ?_⟩
          · have e1 := hrr.length
            have e2 := List.length_filter_le (fun a : Str × Str × Int => decide (a.1 = kw.1)) (as.take e)
            rw [List.length_map] at e1
            rw [List.length_take] at e2
            have e3 : (foll (as.take e) kw.1).length ≤ min e as.length := e2
            rw [sizeLine_eq]
            omega
          · rw [foll_take ha', if_pos hq, List.map_append]
            exact hrr.snoc ⟨t, rfl, ht⟩
        · refine ifF (decide_eq_false (fun z => hq (by injection z))) ⟨sd, vs, hDd, ?_⟩
          rw [foll_take ha', if_neg hq, List.append_nil]
          exact hrr
      rintro H9 ⟨s9, wv', hD9, hrr9⟩
      rw [hyl, List.take_length] at hrr9
      have g09 : Grow p q H H9 := g08.trans (Grow.of s9)
      have P9 := P8.keeps s9
      have hW9 := s9 _ _ hW8
      have hw9 : Rows (newer H H9) (ws ++ [.ref t4]) ((w ++ [(kw.1, mo, x)]).map (w4 ks gr)) := Rows.keeps hw8 (newer_same s9)
      have hfn : ∀ a ∈ foll as kw.1, a ∈ as ∧ a.1 = kw.1 := fun a ha => by
        obtain ⟨h1, h2⟩ := List.mem_filter.mp ha
        exact ⟨h1, by simpa using h2⟩
      have hnm2 : ∀ a ∈ foll as kw.1, NameOk a.1 ∧ NameOk a.2.1 := fun a ha => by
        obtain ⟨h1, _⟩ := hfn a ha
        obtain ⟨m1, m2⟩ := ok.fs a h1
        obtain ⟨q1, q2, q3⟩ := List.mem_map.mp m1
        obtain ⟨r1, r2, r3⟩ := List.mem_map.mp m2
        rw [← q3, ← r3]
        exact ⟨ok.nm q1 q2, ok.nm r1 r2⟩
      have hvl : wv'.length = (foll as kw.1).length := by rw [hrr9.length, List.length_map]
      have hfl12 : (foll as kw.1).length ≤ 12 := Nat.le_trans (List.length_filter_le _ _) ha12
      refine ⟨_, rfl, (by show 0 ≤ sizeLine; decide), fun e he => ⟨.list ((foll as kw.1).map atd), .list [], Dp.lst (SqL.of (by rw [upd_ne (ne_of_none hD9 he)]; exact hD9)) (dp_arrows (Rows.keeps hrr9 ((sx g09).trans (same_upd he)))), Dp.lst (SqL.of upd_same) .nil, atds_shaped hnm2, ints_shaped [], decide (foll as kw.1 = []), by rw [atds_eqv_nil], ?_⟩⟩
      have se : Same H9 (L2.upd H9 e (.lst [])) := same_upd he
      generalize hHe : L2.upd H9 e (.lst []) = He at se ⊢
      have g0e : Grow p q H He := g09.trans (Grow.of se)
      have Pe := P9.keeps se
      have hWe := se _ _ hW9
      have hwe : Rows (newer H He) (ws ++ [.ref t4]) ((w ++ [(kw.1, mo, x)]).map (w4 ks gr)) := Rows.keeps hw9 (newer_same se)
      have hwl8 : (w ++ [(kw.1, mo, x)]).length = i + 1 := by rw [List.length_append, hwl]; rfl
      by_cases hnil : foll as kw.1 = []
      · refine ifT (decide_eq_true hnil) ⟨_, rfl, k He W _ g0e (Pe.le (by omega)) ⟨_, newer_at hW hWe, hwe⟩ hwo8 (by omega) hdue8⟩
      refine ifF (decide_eq_false hnil) ?_
      have hfl1 : 1 ≤ (foll as kw.1).length := List.length_pos_iff.mpr hnil
      have hDe := se _ _ hD9
      have hD2p := ne_dom hD2 P8.dp
      have hD2q := ne_dom hD2 P8.dq
      refine ⟨_, rfl, _, rfl, _, rfl, D2, wv', rfl, .inl (SqL.of hDe), p, q, _, _, rfl, Pe, by omega, by omega, by omega, fun v7' H10 f0 f1 g10 P10 => ?_⟩
      obtain ⟨c, rfl⟩ := Int.eq_ofNat_of_zero_le f0
      obtain ⟨a, ha⟩ : ∃ a, (foll as kw.1)[c]? = some a := ⟨_, List.getElem?_eq_getElem (by omega)⟩
      obtain ⟨ham, han⟩ := hfn a (List.mem_of_getElem? ha)
      obtain ⟨v, hv, ta, rfl, hta⟩ := hrr9.get' (i := c) (b := av a) (by rw [List.getElem?_map, ha]; rfl)
      have g010 := g0e.trans g10
      have hD10 := g10.keep _ _ hD2p hD2q hDe
      refine ⟨D2, wv', (c : Int), .ref ta, rfl, rfl, SqL.of hD10, atI_nat hv, ?_⟩
      refine ⟨_, rfl, ta, _, 1, .str a.2.1, rfl, rfl, SqT.of (sx g010 _ _ hta), atI_nat (j := 1) rfl, ?_⟩
      have hga := ok.ag a ham
      have hag2 : a.2.2 * gr ≤ 12 * gr := Int.mul_le_mul_of_nonneg_right hga.2 (by omega)
      have hag1 : 0 ≤ a.2.2 * gr := Int.mul_nonneg (by omega) (by omega)
      refine ⟨_, rfl, _, rfl, ta, _, 2, .int a.2.2, rfl, rfl, SqT.of (sx g010 _ _ hta), atI_nat (j := 2) rfl, _, rfl, _, _, rfl, rfl, .inl ⟨by omega, by omega⟩, _, _, rfl, rfl, ?_⟩
      refine ⟨_, rfl, _, rfl, _, _, rfl, rfl, .inl ⟨by omega, by omega⟩, p, q, _, _, rfl, P10, by omega, by omega, by omega, fun v8' H11 i0 i1 g11 P11 => ⟨(by show 4 ≤ sizeLine; decide), fun ML hML => ?_⟩⟩
      have sM : Same H11 (L2.upd H11 ML (.lst [.int 0, .int 0, .int 1, .int v8'])) := same_upd hML
      have hMLp := ne_dom hML P11.dp
      have hMLq := ne_dom hML P11.dq
      refine ⟨_, rfl, p, q, _, 4, rfl, P11.keeps sM, by omega, by decide, by decide, fun v9' H12 j0 j1 g12 P12 => ?_⟩
      obtain ⟨y, hy1, hy2, hy3⟩ : ∃ y, atI [V.int 0, .int 0, .int 1, .int v8'] v9' = some (.int y) ∧ 0 ≤ y ∧ y ≤ 2 * gr := by
        obtain ⟨j, rfl⟩ := Int.eq_ofNat_of_zero_le j0
        have hj : j = 0 ∨ j = 1 ∨ j = 2 ∨ j = 3 := by omega
        rcases hj with rfl | rfl | rfl | rfl
        · exact ⟨_, atI_nat (j := 0) rfl, by omega, by omega⟩
        · exact ⟨_, atI_nat (j := 1) rfl, by omega, by omega⟩
        · exact ⟨_, atI_nat (j := 2) rfl, by omega, by omega⟩
        · exact ⟨_, atI_nat (j := 3) rfl, by omega, by omega⟩
      have ge12 : Grow p q He H12 := (g10.trans (g11.trans (Grow.of sM))).trans g12
      have g012 := g0e.trans ge12
      refine ⟨ML, _, v9', .int y, rfl, rfl, SqL.of (g12.keep _ _ hMLp hMLq upd_same), hy1, _, _, rfl, rfl, ?_⟩
      obtain ⟨kn, hkn, ekn⟩ := List.mem_map.mp (ok.fs a ham).2
      refine ⟨_, _, _, _, _, _, _, _, kn, mo + a.2.2 * gr + y, w ++ [(kw.1, mo, x)], ws ++ [.ref t4], by rw [ekn]; rfl, hkn, by omega, ?_, g012, P12.le (by omega), ge12.keep _ _ hWp hWq hWe, Rows.keeps hwe (newer_grow ge12 hP.dp hP.dq), hwl8, hwo8, fun b hb cc => ?_, hdue8⟩
      · have e1 : (3 + 14 * ((i + 1 : Nat) : Int)) * gr = (3 + 14 * (i : Int)) * gr + 14 * gr := by
          rw [← Int.add_mul]
          congr 1
        rw [e1]
        omega
      · rw [List.getLast?_append] at hb
        simp at hb
        subst hb
        refine ⟨a.2.2, ?_, ?_⟩
        · show (kw.1, kn.1, a.2.2) ∈ as
          rw [ekn, ← han]
          exact ham
        · show a.2.2 * gr ≤ mo + a.2.2 * gr + y - mo
          omega
    · rintro σ Hc ⟨v6, v7, v8, v9, v10, v11, v12, v13, kw, mo, w, ws, rfl, hkw, hmo0, hmo1, gc, hPc, hWc, hrw, hwl, hwo, hstep, hdue⟩
      exact ⟨_, rfl, k Hc W w gc (hPc.le (by omega)) ⟨ws, newer_at hW hWc, hrw⟩ hwo (by omega) hdue⟩
end
end WD
/-! what the law counts, in plain words -/
namespace WD
open PySem PySem.Spec PyProof.Rows L2
abbrev J4 : Type := Str × Int × Int × Int
def j4 (ks : List (Str × Int × Int)) (g : Int) (j : Str × Int × Int) : J4 := (j.1, j.2.1, j.2.2, due ks g j)
def j4v (j : J4) : List V := [.str j.1, .int j.2.1, .int j.2.2.1, .int j.2.2.2]
/-- all jobs of some walks -/
def al (g : Int) : List It3 → List J4
  | [] => []
  | x :: its => x.w.map (j4 x.ks g) ++ al g its
theorem al_snoc {g : Int} {x : It3} : ∀ its : List It3, al g (its ++ [x]) = al g its ++ x.w.map (j4 x.ks g)
  | [] => by
    show x.w.map (j4 x.ks g) ++ [] = [] ++ _
    rw [List.append_nil, List.nil_append]
  | y :: its => by
    show y.w.map (j4 y.ks g) ++ al g (its ++ [x]) = (y.w.map (j4 y.ks g) ++ al g its) ++ _
    rw [al_snoc its, List.append_assoc]
theorem w4_j4 (ks : List (Str × Int × Int)) (g : Int) (w : List (Str × Int × Int)) : w.map (w4 ks g) = (w.map (j4 ks g)).map j4v := by
  rw [List.map_map]
  rfl
theorem asked_eq {g a b : Int} : ∀ its : List It3, (((al g its).filter fun j : J4 => decide (a ≤ j.2.1) && decide (j.2.2.2 ≤ b)).map fun j => j.2.2.1).sum = (its.map fun x => fromA x.ks g a b x.w).sum
  | [] => rfl
  | x :: its => by
    have ih := asked_eq (g := g) (a := a) (b := b) its
    show (((x.w.map (j4 x.ks g) ++ al g its).filter _).map _).sum = _
    rw [List.filter_append, List.map_append, sum_app, ih, List.map_cons, List.sum_cons]
    congr 1
    unfold fromA
    rw [List.filter_map, List.map_map]
    rfl
theorem asked_le {g a b : Int} (hg : 0 < g) (hab : a ≤ b) : ∀ {its : List It3}, (∀ x ∈ its, TaskOk x.ks x.as ∧ WalkOk x.ks x.as g x.w) → (its.map fun x => fromA x.ks g a b x.w).sum ≤ g * (its.map fun x => td x.ks x.as ((b - a) / g)).sum
  | [], _ => by simp
  | x :: its, h => by
    have ih := asked_le hg hab (its := its) fun y hy => h y (List.mem_cons_of_mem _ hy)
    obtain ⟨h1, h2⟩ := h x (List.mem_cons_self ..)
    have h3 := fromA_le h1.sane hg hab h2
    rw [List.map_cons, List.sum_cons, List.map_cons, List.sum_cons, Int.mul_add]
    omega
theorem rowsW_until {ks : List (Str × Int × Int)} {g T : Int} {i : Nat} : ∀ (w : List (Str × Int × Int)) (j : Nat), (((rowsW ks g i j w).filter fun r : Jb => decide (r.d ≤ T)).map fun r => r.c).sum = untilB ks g T w
  | [], j => rfl
  | x :: w, j => by
    have ih := rowsW_until (ks := ks) (g := g) (T := T) (i := i) w (j + 1)
    rw [untilB_cons, ← ih]
    show ((((⟨(i : Int), (j : Int), x.1, x.2.1, x.2.2, due ks g x⟩ : Jb) :: rowsW ks g i (j + 1) w).filter _).map _).sum = _
    by_cases h : due ks g x ≤ T
    · rw [List.filter_cons_of_pos (by simpa using h), List.map_cons, List.sum_cons, if_pos h]
    · rw [List.filter_cons_of_neg (by simpa using h), if_neg h]
      omega
theorem rowsV_until {g T : Int} : ∀ (its : List It3) (i : Nat), (((rowsV g i its).filter fun r : Jb => decide (r.d ≤ T)).map fun r => r.c).sum = (its.map fun x => untilB x.ks g T x.w).sum
  | [], i => rfl
  | x :: its, i => by
    have ih := rowsV_until (g := g) (T := T) its (i + 1)
    show (((rowsW x.ks g i 0 x.w ++ rowsV g (i + 1) its).filter _).map _).sum = _
    rw [List.filter_append, List.map_append, sum_app, ih, rowsW_until, List.map_cons, List.sum_cons]
theorem perm_until {js rs : List Jb} {T : Int} (h : js.Perm rs) : ((js.filter fun r : Jb => decide (r.d ≤ T)).map fun r => r.c).sum = ((rs.filter fun r : Jb => decide (r.d ≤ T)).map fun r => r.c).sum := sum_perm ((h.filter _).map _)
theorem rowsV_al {g : Int} : ∀ (its : List It3) (i : Nat), (rowsV g i its).length = (al g its).length
  | [], i => rfl
  | x :: its, i => by
    show (rowsW x.ks g i 0 x.w ++ rowsV g (i + 1) its).length = (x.w.map (j4 x.ks g) ++ al g its).length
    rw [List.length_append, List.length_append, rowsW_len, List.length_map, rowsV_al its (i + 1)]
theorem al_len {g : Int} : ∀ {its : List It3}, (∀ x ∈ its, x.w.length ≤ 8) → (al g its).length ≤ 8 * its.length
  | [], _ => by simp [al]
  | x :: its, h => by
    have ih := al_len (g := g) (its := its) fun y hy => h y (List.mem_cons_of_mem _ hy)
    have h1 := h x (List.mem_cons_self ..)
    show (x.w.map (j4 x.ks g) ++ al g its).length ≤ 8 * (its.length + 1)
    rw [List.length_append, List.length_map]
    omega
theorem al_mem {g : Int} {j : J4} : ∀ {its : List It3}, j ∈ al g its → ∃ x ∈ its, ∃ k ∈ x.w, j = j4 x.ks g k
  | [], h => by cases h
  | x :: its, h => by
    rcases List.mem_append.mp (show j ∈ x.w.map (j4 x.ks g) ++ al g its from h) with h | h
    · obtain ⟨k, hk, rfl⟩ := List.mem_map.mp h
      exact ⟨x, List.mem_cons_self .., k, hk, rfl⟩
    · obtain ⟨y, hy, k, hk, e⟩ := al_mem h
      exact ⟨y, List.mem_cons_of_mem _ hy, k, hk, e⟩
theorem al_bound {g : Int} {its : List It3} (h : ∀ x ∈ its, WalkOk x.ks x.as g x.w ∧ ∀ j ∈ x.w, due x.ks g j ≤ 300 * g) {j : J4} (hj : j ∈ al g its) : 0 ≤ j.2.1 ∧ j.2.2.2 ≤ 300 * g := by
  obtain ⟨x, hx, k, hk, rfl⟩ := al_mem hj
  obtain ⟨h1, h2⟩ := h x hx
  exact ⟨(h1.job k hk).2.1, h2 k hk⟩
theorem span_le {g a b : Int} (hg : 0 < g) (ha : 0 ≤ a) (hb : b ≤ 300 * g) : (b - a) / g ≤ 300 := by
  have h1 : (b - a) / g ≤ (300 * g) / g := Int.ediv_le_ediv hg (by omega)
  rw [Int.mul_ediv_cancel _ (by omega)] at h1
  exact h1
theorem td_sum {its : List It3} {T : Int} : ((its.map It3.tk).map fun x => td x.1 x.2 T).sum = (its.map fun x => td x.ks x.as T).sum := by
  rw [List.map_map]
  rfl
theorem until_sum {T : Int} : ∀ {its : List It3}, (∀ x ∈ its, untilB x.ks 1 T x.w = td x.ks x.as T) → (its.map fun x => untilB x.ks 1 T x.w).sum = (its.map fun x => td x.ks x.as T).sum
  | [], _ => rfl
  | x :: its, h => by
    rw [List.map_cons, List.sum_cons, List.map_cons, List.sum_cons, h x (List.mem_cons_self ..), until_sum fun y hy => h y (List.mem_cons_of_mem _ hy)]
/-! ### over all but tables -/
theorem newer_extN {H0 H H' : Hp} (e : LamX.ExtN H H') : LamX.ExtN (newer H0 H) (newer H0 H') := fun b o h n => newer_at (newer_none h) (e b o (newer_sub _ _ b o h) n)
theorem Rows.ext {G G' : Hp} {vs : List V} {xss : List (List V)} (h : Rows G vs xss) (e : LamX.ExtN G G') : Rows G' vs xss := h.mono fun v xs ⟨a, ea, ha⟩ => ⟨a, ea, e _ _ ha fun ps z => by cases z⟩
theorem LRows.ext {G G' : Hp} {l : Addr} {xss : List (List V)} (h : LRows G l xss) (e : LamX.ExtN G G') : LRows G' l xss := by
  obtain ⟨vs, h1, h2⟩ := h
  exact ⟨vs, e _ _ h1 (fun ps z => by cases z), Rows.ext h2 e⟩
theorem TaskAt.ext {C : Addr} {G G' : Hp} {a : Addr} {ks : List (Str × Int × Int)} {as : List (Str × Str × Int)} (h : TaskAt C G a ks as) (e : LamX.ExtN G G') : TaskAt C G' a ks as := by
  obtain ⟨dx, nm, lk, la, h1, h2, h3⟩ := h
  exact ⟨dx, nm, lk, la, e _ _ h1 (fun ps z => by cases z), h2.ext e, h3.ext e⟩
theorem LTasks.ext {C : Addr} {G G' : Hp} {l : Addr} {tks : List Tk} (h : LTasks C G l tks) (e : LamX.ExtN G G') : LTasks C G' l tks := by
  obtain ⟨vs, h1, h2⟩ := h
  exact ⟨vs, e _ _ h1 (fun ps z => by cases z), h2.mono fun v w ⟨a, ea, q⟩ => ⟨a, ea, q.ext e⟩⟩
theorem Pool.ext {H H' : Hp} {p q : Addr} {n : Nat} (h : Pool H p q n) (e : LamX.ExtN H H') : Pool H' p q n := by
  obtain ⟨cs, seed, c, h1, h2, h3⟩ := h.ex
  exact ⟨⟨cs, seed, c, e _ _ h1 (fun ps z => by cases z), e _ _ h2 (fun ps z => by cases z), h3⟩, h.ne⟩
theorem tabs_grow {H H' : Hp} {T : List (Addr × Str)} {p q : Addr} {n : Nat} (t : LamX.Tabs T H) (h : Pool H p q n) (g : Grow p q H H') : LamX.Tabs T H' := fun x hx => by
  obtain ⟨cs, seed, c, hp, hq, _⟩ := h.ex
  obtain ⟨ps, h1, h2, h3⟩ := t x hx
  refine ⟨ps, g.keep _ _ (ne_of h1 hp (by intro z; cases z)) (ne_of h1 hq (by intro z; cases z)) h1, h2, fun pos cv hc => ?_⟩
  obtain ⟨c, e1, e2⟩ := h3 pos cv hc
  exact ⟨c, e1, g.keep _ _ (ne_of e2 hp (by intro z; cases z)) (ne_of e2 hq (by intro z; cases z)) e2⟩
end WD
/-! the law -/
namespace WD
open PySem PySem.Spec PyProof.Rows L2
abbrev sLaw : Stmt := top 51
def spLaw (K : PySem.W.Frag) (PT : Addr) : Sp := fun vs H Q _ => ∃ (a : Addr) (ns : List Int), vs = [.ref a] ∧ SqL K H a (ns.map V.int) ∧ ns.length ≤ 63 ∧ LamX.Tabs [(PT, qL)] H ∧ ∀ H', Q (.bl true) H'
theorem dom_upd {H Hc : Hp} {D : Addr} {o : HO} (h : ∀ b, H b ≠ none → Hc b ≠ none) (hD : Hc D ≠ none) : ∀ b, L2.upd H D o b ≠ none → Hc b ≠ none := fun b hb => by
  by_cases e : b = D
  · rw [e]
    exact hD
  · rw [upd_ne e] at hb
    exact h b hb
section
variable {P : Program} {w : World} {K : PySem.W.Frag} {mg : Str → Option Value} {base : Heap}
theorem scLaw : FnScope ["_law_script", "_law_pool_here", "_law_parts", "_law_specs", "_law_tasks", "_law_walks", "_law_walk_here", "_law_run", "_law_jobs", "_law_spans", "_law_first", "_law_last", "_law_most", "_law_asked", "_law_ticks", "_law_at", "_law_k", "_law_spec_here", "_law_job", "_law_span"] ["_law_script"] (defScope sLaw) := ⟨rfl, rfl, rfl, by decide +kernel, rfl, by decide +kernel, by decide +kernel⟩
theorem ok_law {fa C D PT fT fR gJ pJ : Addr} {fd fdT fdR fdJ : FuncData} {kg : List Value → List Value → List Value} (F : Fun K "law" "law" sLaw fa fd) (T : TaskC K C) (R : RunC K D) (g : Gs mg)
    (cP : Cal P w K mg base "_law_pool" 1 ["_law_script"] (spPool K)) (cD : Cal P w K mg base "_law_draw" 1 ["_law_pool_here", "_law_limit"] spDraw) (cS : Cal P w K mg base "_law_spec" 4 ["_law_pool_here"] spSpec)
    (cW : Cal P w K mg base "_law_walk" 2 ["_law_pool_here", "_law_spec_here", "_law_parts"] spWalk) (cM : Cal P w K mg base "demand" 6 ["tasks", "ticks"] (spDemand C)) (cH : Cal P w K mg base "heavy_run" 7 ["tasks", "ticks"] (spHeavyRun C D PT))
    (MT : Mk K C fT) (FT : FnOk P w K mg base CX0 4 fT fdT ["self", "name", "kinds", "arrows"] (spTInit C)) (bT : Binds K fdT ["self", "name", "kinds", "arrows"] []) (MTg : mg "Task" = some (.ref C))
    (MR : Mk K D fR) (FR : FnOk P w K mg base CX0 5 fR fdR ["self", "tasks", "walks", "grain"] (spRInit C D PT)) (kb : KBn K fdR ["self", "tasks", "walks", "grain"] 3 ["grain"] kg (fun vs zs => vs ++ zs)) (MRg : mg "Run" = some (.ref D))
    (GJ : FnOk P w K mg base CX0 1 gJ fdJ ["self"] (spRJobs D)) (mJ : PropOf K D "jobs" pJ gJ) (bJ : Binds K fdJ ["self"] []) : FnOk P w K mg base CX0 8 fa fd ["_law_script"] (spLaw K PT) := by
  refine F.ok scLaw (fun vs H Q E h => ?_) (fun cdv A outer s H vs Q E hr h => ?_)
  · obtain ⟨a, ns, rfl, _⟩ := h
    rfl
  · obtain ⟨a, ns, rfl, hs, hn, hTab, k⟩ := h
    have hrT : Room 5 _ := hr.mono (by decide)
    have hrR : Room 6 _ := hr.mono (by decide)
    have hrJ : Room 2 _ := hr.mono (by decide)
    refine ⟨_, (pss_cons (ps_set (i := 1) scLaw.nd rfl (Or.inr rfl) (pc cP hr (pa_cons (pv 0) pa_nil)))
      (pss_cons (ps_set (i := 2) scLaw.nd rfl (Or.inr rfl) (pe_op op_add pe_int (pc cD hr (pa_cons (pv 1) (pa_cons pe_int pa_nil)))))
      (pss_cons (ps_setLc (i := 3) rfl scLaw.nd rfl rfl (sw_true rfl rfl rfl (by decide +kernel)) (own := [("_law_k", 16)]) (pi_range1 rfl g.range (pa_cons (pe_op op_add pe_int (pc cD hr (pa_cons (pv 1) (pa_cons pe_int pa_nil)))) pa_nil)) (blkOk_by (N := ["_law_script", "_law_pool_here", "_law_parts", "_law_specs", "_law_tasks", "_law_walks", "_law_walk_here", "_law_run", "_law_jobs", "_law_spans", "_law_first", "_law_last", "_law_most", "_law_asked", "_law_ticks", "_law_at", "_law_k", "_law_spec_here", "_law_job", "_law_span"]) (sc := defScope sLaw) (by decide +kernel))
          (fun _ _ _ _ _ => pg_name (i := 16) scLaw.nd rfl (Or.inl rfl)) (fun _ _ _ _ _ => pts_nil) (fun _ _ _ _ _ => pc cS hr (pa_cons (pv 1) pa_nil)))
      (pss_cons (ps_setLc (i := 4) rfl scLaw.nd rfl rfl (sw_true rfl rfl rfl (by decide +kernel)) (own := [("_law_spec_here", 17)]) (piL K (pv 3)) (blkOk_by (N := ["_law_script", "_law_pool_here", "_law_parts", "_law_specs", "_law_tasks", "_law_walks", "_law_walk_here", "_law_run", "_law_jobs", "_law_spans", "_law_first", "_law_last", "_law_most", "_law_asked", "_law_ticks", "_law_at", "_law_k", "_law_spec_here", "_law_job", "_law_span"]) (sc := defScope sLaw) (by decide +kernel))
          (fun _ _ _ _ _ => pg_name (i := 17) scLaw.nd rfl (Or.inl rfl)) (fun _ _ _ _ _ => pts_nil) (fun _ _ _ _ _ => pe_make MT FT hrT rfl MTg bT .nil pass0 (pa_cons (pe_ix (ixT K) (pv 17) pe_int (fun _ _ => rfl)) (pa_cons (pe_callTy (lstS K) (by rfl) g.list (by decide +kernel) (pa_cons (pe_ix (ixT K) (pv 17) pe_int (fun _ _ => rfl)) pa_nil)) (pa_cons (pe_callTy (lstS K) (by rfl) g.list (by decide +kernel) (pa_cons (pe_ix (ixT K) (pv 17) pe_int (fun _ _ => rfl)) pa_nil)) pa_nil)))))
      (pss_cons (ps_setLc (i := 5) rfl scLaw.nd rfl rfl (sw_true rfl rfl rfl (by decide +kernel)) (own := [("_law_spec_here", 17)]) (piL K (pv 3)) (blkOk_by (N := ["_law_script", "_law_pool_here", "_law_parts", "_law_specs", "_law_tasks", "_law_walks", "_law_walk_here", "_law_run", "_law_jobs", "_law_spans", "_law_first", "_law_last", "_law_most", "_law_asked", "_law_ticks", "_law_at", "_law_k", "_law_spec_here", "_law_job", "_law_span"]) (sc := defScope sLaw) (by decide +kernel))
          (fun _ _ _ _ _ => pg_name (i := 17) scLaw.nd rfl (Or.inl rfl)) (fun _ _ _ _ _ => pts_nil) (fun _ _ _ _ _ => pc cW hr (pa_cons (pv 1) (pa_cons (pv 17) (pa_cons (pv 2) pa_nil)))))
      (pss_cons (ps_set (i := 7) scLaw.nd rfl (Or.inl rfl) (pe_makeK MR FR hrR rfl MRg kb pass0 (pa_cons (pv 4) (pa_cons (pe_lc (own := [("_law_walk_here", 6)]) rfl scLaw.nd (piL K (pv 5)) (blkOk_by (N := ["_law_script", "_law_pool_here", "_law_parts", "_law_specs", "_law_tasks", "_law_walks", "_law_walk_here", "_law_run", "_law_jobs", "_law_spans", "_law_first", "_law_last", "_law_most", "_law_asked", "_law_ticks", "_law_at", "_law_k", "_law_spec_here", "_law_job", "_law_span"]) (sc := defScope sLaw) (by decide +kernel))
          (fun _ _ _ _ _ => pg_name (i := 6) scLaw.nd rfl (Or.inl rfl)) (fun _ _ _ _ _ => pts_nil) (fun _ _ _ _ _ => (pe_lc (own := [("_law_job", 18)]) rfl scLaw.nd (piL K (pv 6)) (blkOk_by (N := ["_law_script", "_law_pool_here", "_law_parts", "_law_specs", "_law_tasks", "_law_walks", "_law_walk_here", "_law_run", "_law_jobs", "_law_spans", "_law_first", "_law_last", "_law_most", "_law_asked", "_law_ticks", "_law_at", "_law_k", "_law_spec_here", "_law_job", "_law_span"]) (sc := relS _ (defScope sLaw)) (by decide +kernel))
          (fun _ _ _ _ _ => pg_name (i := 18) scLaw.nd rfl (Or.inl rfl)) (fun _ _ _ _ _ => pts_nil) (fun _ _ _ _ _ => pe_tup (pa_cons (pe_ix (ixT K) (pv 18) pe_int (fun _ _ => rfl)) (pa_cons (pe_ix (ixT K) (pv 18) pe_int (fun _ _ => rfl)) (pa_cons (pe_ix (ixT K) (pv 18) pe_int (fun _ _ => rfl)) pa_nil))))))) pa_nil)) (pk_cons (pv 2) pk_nil)))
      (pss_cons (ps_set (i := 8) scLaw.nd rfl (Or.inl rfl) (pe_lst pa_nil))
      (pss_cons (ps_for PassesOwn.never rfl (piL K (pv 5)) (pg_name (i := 6) scLaw.nd rfl (Or.inl rfl))
        (pss_one (ps_set (i := 8) scLaw.nd rfl (Or.inl rfl) (pe_op op_cat (pv 8) (pv 6)))))
      (pss_cons (ps_if (pt_cmpR op_ne (pe_callB (lenS K) (by rfl) g.len PySem.boot_len (pa_cons (pe_prop (pv 7) R.cl mJ GJ hrJ bJ .nil pass0 rfl) pa_nil)) (pe_callB (lenS K) (by rfl) g.len PySem.boot_len (pa_cons (pv 8) pa_nil)) (nomark _)) (pss_one (ps_ret pe_bl)) pss_nil)
      (pss_cons (ps_set (i := 9) scLaw.nd rfl (Or.inl rfl) (pe_lst (pa_cons pe_int pa_nil)))
      (pss_cons (ps_for PassesOwn.never rfl (piL K (pv 8)) (pg_name (i := 10) scLaw.nd rfl (Or.inr rfl))
        (pss_one (ps_for PassesOwn.never rfl (piL K (pv 8)) (pg_name (i := 11) scLaw.nd rfl (Or.inr rfl))
          (pss_one (ps_expr (pe_bm PySem.F.plainAttrs_list PySem.F.slot_list_append PySem.F.type_list_append mt_append (pv 9) (pa_cons (pe_op op_fdiv (pe_op op_sub (pe_ix (ixT K) (pv 11) pe_int (fun _ _ => rfl)) (pe_ix (ixT K) (pv 10) pe_int (fun _ _ => rfl))) (pv 2)) pa_nil)))))))
      (pss_cons (ps_set (i := 12) scLaw.nd rfl (Or.inl rfl) (pc cM hr (pa_cons (pe_callTy (lstS K) (by rfl) g.list (by decide +kernel) (pa_cons (pv 4) pa_nil)) (pa_cons (pe_callB (maxS K) (by rfl) g.max (by decide +kernel) (pa_cons (pv 9) pa_nil)) pa_nil))))
      (pss_cons (ps_for PassesOwn.never rfl (piL K (pv 8)) (pg_name (i := 10) scLaw.nd rfl (Or.inr rfl))
        (pss_one (ps_for PassesOwn.never rfl (piL K (pv 8)) (pg_name (i := 11) scLaw.nd rfl (Or.inr rfl))
          (pss_one (ps_if (pt_cmpR op_le (pe_ix (ixT K) (pv 10) pe_int (fun _ _ => rfl)) (pe_ix (ixT K) (pv 11) pe_int (fun _ _ => rfl)) (nomark _))
            (pss_cons (ps_set (i := 13) scLaw.nd rfl (Or.inl rfl) (pe_callB (sumS K) (by rfl) g.sum (by decide +kernel) (pa_cons (pe_lc (own := [("_law_job", 18)]) rfl scLaw.nd (piL K (pv 8)) (blkOk_by (N := ["_law_script", "_law_pool_here", "_law_parts", "_law_specs", "_law_tasks", "_law_walks", "_law_walk_here", "_law_run", "_law_jobs", "_law_spans", "_law_first", "_law_last", "_law_most", "_law_asked", "_law_ticks", "_law_at", "_law_k", "_law_spec_here", "_law_job", "_law_span"]) (sc := defScope sLaw) (by decide +kernel))
          (fun _ _ _ _ _ => pg_name (i := 18) scLaw.nd rfl (Or.inl rfl)) (fun _ _ _ _ _ => pts_one (pw_and (pt_cmpR op_ge (pe_ix (ixT K) (pv 18) pe_int (fun _ _ => rfl)) (pe_ix (ixT K) (pv 10) pe_int (fun _ _ => rfl)) (nomark _)) (pw_and1 (pt_cmpR op_le (pe_ix (ixT K) (pv 18) pe_int (fun _ _ => rfl)) (pe_ix (ixT K) (pv 11) pe_int (fun _ _ => rfl)) (nomark _)))).pt) (fun _ _ _ _ _ => (pe_ix (ixT K) (pv 18) pe_int (fun _ _ => rfl)))) pa_nil)))
            (pss_one (ps_if (pt_cmpR op_gt (pv 13) (pe_op op_mul (pv 2) (pe_ix (ixL K) (pv 12) (pe_op op_fdiv (pe_op op_sub (pe_ix (ixT K) (pv 11) pe_int (fun _ _ => rfl)) (pe_ix (ixT K) (pv 10) pe_int (fun _ _ => rfl))) (pv 2)) (fun _ _ => rfl))) (nomark _)) (pss_one (ps_ret pe_bl)) pss_nil))) pss_nil)))))
      (pss_cons (ps_setLc (i := 14) rfl scLaw.nd rfl rfl (sw_true rfl rfl rfl (by decide +kernel)) (own := [("_law_span", 19)]) (piL K (pv 9)) (blkOk_by (N := ["_law_script", "_law_pool_here", "_law_parts", "_law_specs", "_law_tasks", "_law_walks", "_law_walk_here", "_law_run", "_law_jobs", "_law_spans", "_law_first", "_law_last", "_law_most", "_law_asked", "_law_ticks", "_law_at", "_law_k", "_law_spec_here", "_law_job", "_law_span"]) (sc := defScope sLaw) (by decide +kernel))
          (fun _ _ _ _ _ => pg_name (i := 19) scLaw.nd rfl (Or.inl rfl)) (fun _ _ _ _ _ => pts_one (pt_chain op_le op_le pe_int (pv 19) pe_int)) (fun _ _ _ _ _ => pv 19))
      (pss_cons (ps_set (i := 15) scLaw.nd rfl (Or.inr rfl) (pe_ix (ixL K) (pv 14) (pc cD hr (pa_cons (pv 1) (pa_cons (pe_callB (lenS K) (by rfl) g.len PySem.boot_len (pa_cons (pv 14) pa_nil)) pa_nil))) (fun _ _ => rfl)))
      (pss_one (ps_ret (pe_cmpR op_eq (pe_callB (sumS K) (by rfl) g.sum (by decide +kernel) (pa_cons (pe_lc (own := [("_law_job", 18)]) rfl scLaw.nd (piL K (pe_prop (pc cH hr (pa_cons (pe_callTy (lstS K) (by rfl) g.list (by decide +kernel) (pa_cons (pv 4) pa_nil)) (pa_cons (pv 15) pa_nil))) R.cl mJ GJ hrJ bJ .nil pass0 rfl)) (blkOk_by (N := ["_law_script", "_law_pool_here", "_law_parts", "_law_specs", "_law_tasks", "_law_walks", "_law_walk_here", "_law_run", "_law_jobs", "_law_spans", "_law_first", "_law_last", "_law_most", "_law_asked", "_law_ticks", "_law_at", "_law_k", "_law_spec_here", "_law_job", "_law_span"]) (sc := defScope sLaw) (by decide +kernel))
          (fun _ _ _ _ _ => pg_name (i := 18) scLaw.nd rfl (Or.inl rfl)) (fun _ _ _ _ _ => pts_one (pt_cmpR op_le (pe_ix (ixT K) (pv 18) pe_int (fun _ _ => rfl)) (pv 15) (nomark _))) (fun _ _ _ _ _ => (pe_ix (ixT K) (pv 18) pe_int (fun _ _ => rfl)))) pa_nil)) (pe_ix (ixL K) (pv 12) (pv 15) (fun _ _ => rfl)) (nomark _))))))))))))))))))), ?_⟩
    refine ⟨_, rfl, a, ns, rfl, hs, hn, fun H0 p q s0 hpn hqn P0 => ?_⟩
    have hTab0 : LamX.Tabs [(PT, qL)] H0 := hTab.ext s0
    have d0p := P0.dp
    have d0q := P0.dq
    refine ⟨_, rfl, p, q, 0, 60, rfl, P0, by decide, by decide, by decide, fun v1 H1 a0 a1 g1 P1 => ⟨_, _, rfl, rfl, ?_⟩⟩
    have hg1 : (1 : Int) ≤ (1 + v1) := by omega
    have hg2 : (1 + v1) ≤ (60 : Int) := by omega
    refine ⟨_, rfl, p, q, 1, 3, rfl, P1, by decide, by decide, by decide, fun v2 H2 b0 b1 g2 P2 => ⟨_, _, rfl, rfl, _, rfl, by omega, by omega, fun SP hSP => ?_⟩⟩
    obtain ⟨m, rfl⟩ := Int.eq_ofNat_of_zero_le b0
    have en : ((1 : Int) + (m : Int)).toNat = m + 1 := by omega
    rw [en]
    have hSPp := ne_dom hSP P2.dp
    have hSPq := ne_dom hSP P2.dq
    have hb3 : L2.upd H2 SP (.lst []) SP ≠ none := by rw [upd_same]; simp
    have h3p : L2.upd H2 SP (.lst []) p ≠ none := by rw [upd_ne hSPp.symm]; exact P2.dp
    have h3q : L2.upd H2 SP (.lst []) q ≠ none := by rw [upd_ne hSPq.symm]; exact P2.dq
    have g02 := g1.trans g2
    refine lcy walk_range0 (fun i Hc => Grow p q H2 Hc ∧ Pool Hc p q (2 + 135 * i) ∧ ∃ (sts : List V) (tks : List Tk), tks.length = i ∧ Hc SP = some (.lst sts) ∧ All2 (fun v (x : Tk) => ∃ a, v = V.ref a ∧ SpecAt (newer (L2.upd H2 SP (.lst [])) Hc) a x.1 x.2) sts tks ∧ ∀ x ∈ tks, TaskOk x.1 x.2)
      ⟨Grow.of (same_upd hSP), P2.keeps (same_upd hSP), [], [], rfl, upd_same, .nil, fun x hx => by cases hx⟩ (fun _ _ _ _ => True.intro) ?_ ?_
    · rintro i x _ Hc hi ⟨gr, hPc, sts, tks, htl, hSc, hall, hok⟩ ⟨rfl, rfl⟩
      refine ⟨rfl, _, rfl, p, q, 2 + 135 * i, rfl, hPc, by omega, fun H4 t ks as g4 P4 hS ok => ?_⟩
      have hS4 := g4.keep _ _ hSPp hSPq hSc
      have hdom : ∀ b, L2.upd H2 SP (.lst []) b ≠ none → Hc b ≠ none := dom_upd gr.dom (ne_none hSc)
      have e0 := hall.length
      refine ⟨sts, hS4, by rw [sizeLine_eq]; omega, (gr.trans g4).upd (.inl hSP), (P4.upd hSPp hSPq).le (by omega), _, tks ++ [(ks, as)], by rw [List.length_append, htl]; rfl, upd_same, ?_, fun x hx => ?_⟩
      · refine (hall.mono fun v x ⟨a, e, h⟩ => ⟨a, e, (h.keeps (newer_grow g4 h3p h3q)).keeps (newer_upd hb3)⟩).snoc ⟨t, rfl, (hS.keeps (newer_dom hdom)).keeps (newer_upd hb3)⟩
      · rcases List.mem_append.mp hx with h | h
        · exact hok x h
        · have e : x = (ks, as) := by simpa using h
          subst e
          exact ok
    rintro Hs ⟨gs, Ps, sts, tks, htl, hSs, hall0, htok⟩
    have dom03 : ∀ b, H0 b ≠ none → L2.upd H2 SP (.lst []) b ≠ none := fun b hb => same_dom (same_upd hSP) _ (g02.dom b hb)
    have hall : All2 (fun v (x : Tk) => ∃ a, v = V.ref a ∧ SpecAt (newer H0 Hs) a x.1 x.2) sts tks := hall0.mono fun v x ⟨a, e, h⟩ => ⟨a, e, h.keeps (newer_dom dom03)⟩
    have htl3 : tks.length ≤ 3 := by omega
    have hsl : sts.length = tks.length := hall.length
    have g0s : Grow p q H0 Hs := g02.trans gs
    -- the tasks
    refine ⟨_, rfl, SP, rfl, ⟨_, SqL.of hSs⟩, fun TL hTL => ?_⟩
    have hbT : L2.upd Hs TL (.lst []) TL ≠ none := by rw [upd_same]; simp
    have hTLp := ne_dom hTL Ps.dp
    have hTLq := ne_dom hTL Ps.dq
    refine lcy (walk_list (K := K) (a := SP) (xs := sts)) (fun i Hc => Same Hs Hc ∧ ∃ ts, Hc TL = some (.lst ts) ∧ All2 (fun v (x : Tk) => ∃ a, v = V.ref a ∧ TaskAt C (newer (L2.upd Hs TL (.lst [])) Hc) a x.1 x.2) ts (tks.take i))
      ⟨same_upd hTL, [], upd_same, .nil⟩ (fun i Hc _ h => SqL.of (h.1 _ _ hSs)) ?_ ?_
    · rintro i x _ Hc hi ⟨sc, ts, hTc, hta⟩ ⟨rfl, hx⟩
      obtain ⟨tk, htk, a', rfl, nm, R', Y, hst, hnm, ⟨us, hus, hur⟩, ys, hys, hyr⟩ := hall.get hx
      have sx : Same (newer H0 Hs) Hc := (newer_sub _ _).trans sc
      refine ⟨rfl, _, rfl, a', _, 0, .str nm, rfl, rfl, SqT.of (sx _ _ hst), atI_nat (j := 0) rfl, _, rfl, a', _, 1, .ref R', rfl, rfl, SqT.of (sx _ _ hst), atI_nat (j := 1) rfl, R', us, rfl, .inl (SqL.of (sx _ _ hus)), fun l1 hl1 => ?_⟩
      have sl1 : Same Hc (L2.upd Hc l1 (.lst us)) := same_upd hl1
      have sx1 := sx.trans sl1
      refine ⟨_, rfl, a', _, 2, .ref Y, rfl, rfl, SqT.of (sx1 _ _ hst), atI_nat (j := 2) rfl, Y, ys, rfl, .inl (SqL.of (sx1 _ _ hys)), fun l2 hl2 => fun x dx hx hdx hne => ?_⟩
      have sl2 : Same (L2.upd Hc l1 (.lst us)) (L2.upd (L2.upd Hc l1 (.lst us)) l2 (.lst ys)) := same_upd hl2
      have sx2 := sx1.trans sl2
      have sHq := sl1.trans sl2
      refine ⟨x, dx, l1, l2, nm, tk.1, tk.2, _, rfl, rfl, hx, hdx, hne, hnm, ⟨us, sl2 _ _ upd_same, Rows.keeps hur sx2⟩, ⟨ys, upd_same, Rows.keeps hyr sx2⟩, htok tk (List.mem_of_getElem? htk), fun H' sH hT => ⟨rfl, ?_⟩⟩
      have sc' : Same Hc H' := sHq.trans sH
      have hT' := sc' _ _ hTc
      have e0 := hta.length
      rw [List.length_take] at e0
      have domT : ∀ b, L2.upd Hs TL (.lst []) b ≠ none → Hc b ≠ none := dom_upd (same_dom sc) (ne_none hTc)
      refine ⟨ts, hT', by rw [sizeLine_eq]; omega, same_up (sc.trans sc') hTL, _, upd_same, ?_⟩
      rw [take_snoc htk]
      refine (hta.mono fun v x ⟨a, e, h⟩ => ⟨a, e, (h.keeps (newer_same sc')).keeps (newer_upd hbT)⟩).snoc ⟨x, rfl, ?_⟩
      exact (hT.keeps (newer_dom fun b hb => same_dom sHq b (domT b hb))).keeps (newer_upd hbT)
    rintro Hk ⟨sk, ts, hTk, hta0⟩
    rw [hsl, List.take_length] at hta0
    have hta : All2 (fun v (x : Tk) => ∃ a, v = V.ref a ∧ TaskAt C (newer H0 Hk) a x.1 x.2) ts tks := hta0.mono fun v x ⟨a, e, h⟩ => ⟨a, e, h.keeps (newer_dom fun b hb => same_dom (same_upd hTL) b (g0s.dom b hb))⟩
    have Pk := Ps.keeps sk
    have hSk := sk _ _ hSs
    have g0k : Grow p q H0 Hk := g0s.trans (Grow.of sk)
    -- the walks
    refine ⟨_, rfl, SP, rfl, ⟨_, SqL.of hSk⟩, fun WL hWL => ?_⟩
    have hWLp := ne_dom hWL Pk.dp
    have hWLq := ne_dom hWL Pk.dq
    have hbW : L2.upd Hk WL (.lst []) WL ≠ none := by rw [upd_same]; simp
    have hwp : L2.upd Hk WL (.lst []) p ≠ none := by rw [upd_ne hWLp.symm]; exact Pk.dp
    have hwq : L2.upd Hk WL (.lst []) q ≠ none := by rw [upd_ne hWLq.symm]; exact Pk.dq
    refine lcy (walk_list (K := K) (a := SP) (xs := sts)) (fun i Hc => Grow p q Hk Hc ∧ Pool Hc p q (2 + 135 * (m + 1) + 51 * i) ∧ ∃ (wvs : List V) (its : List It3), its.map It3.tk = tks.take i ∧ Hc WL = some (.lst wvs) ∧ All2 (fun v (x : It3) => ∃ a, v = V.ref a ∧ LRows (newer (L2.upd Hk WL (.lst [])) Hc) a (x.w.map (w4 x.ks (1 + v1)))) wvs its ∧
        ∀ x ∈ its, WalkOk x.ks x.as (1 + v1) x.w ∧ x.w.length ≤ 8 ∧ ∀ j ∈ x.w, due x.ks (1 + v1) j ≤ 300 * (1 + v1))
      ⟨Grow.of (same_upd hWL), (Pk.keeps (same_upd hWL)).le (by omega), [], [], rfl, upd_same, .nil, fun x hx => by cases hx⟩ (fun i Hc _ h => SqL.of (h.1.keep _ _ hSPp hSPq hSk)) ?_ ?_
    · rintro i x _ Hc hi ⟨gr, hPc, wvs, its, hmap, hWc, hwa, hwok⟩ ⟨rfl, hx⟩
      obtain ⟨tk, htk, a', rfl, hS⟩ := hall.get hx
      refine ⟨rfl, _, rfl, _, rfl, _, rfl, p, q, a', 2 + 135 * (m + 1) + 51 * i, (1 + v1), tk.1, tk.2, H0, rfl, hPc, by omega, d0p, d0q, (hS.keeps (newer_same sk)).keeps (newer_grow gr d0p d0q), htok tk (List.mem_of_getElem? htk), hg1, hg2, fun H4 l ww g4 P4 hl hwo hw8 hdue => ?_⟩
      have hW4 := g4.keep _ _ hWLp hWLq hWc
      have e0 := hwa.length
      have e1 : its.length = (tks.take i).length := by rw [← hmap, List.length_map]
      rw [List.length_take] at e1
      have hdom : ∀ b, L2.upd Hk WL (.lst []) b ≠ none → Hc b ≠ none := dom_upd gr.dom (ne_none hWc)
      refine ⟨wvs, hW4, by rw [sizeLine_eq]; omega, (gr.trans g4).upd (.inl hWL), (P4.upd hWLp hWLq).le (by omega), _, its ++ [⟨ww, tk.1, tk.2⟩], ?_, upd_same, ?_, fun x hx => ?_⟩
      · rw [List.map_append, hmap, take_snoc htk]
        rfl
      · refine (hwa.mono fun v x ⟨a, e, h⟩ => ⟨a, e, (h.keeps (newer_grow g4 hwp hwq)).keeps (newer_upd hbW)⟩).snoc ⟨l, rfl, (hl.keeps (newer_dom hdom)).keeps (newer_upd hbW)⟩
      · rcases List.mem_append.mp hx with h | h
        · exact hwok x h
        · have e : x = ⟨ww, tk.1, tk.2⟩ := by simpa using h
          subst e
          exact ⟨hwo, hw8, hdue⟩
    rintro Hz ⟨gz, Pz, wvs, its, hmap, hWz, hwa0, hwok⟩
    rw [hsl, List.take_length] at hmap
    have hwa : All2 (fun v (x : It3) => ∃ a, v = V.ref a ∧ LRows (newer H0 Hz) a (x.w.map (w4 x.ks (1 + v1)))) wvs its := hwa0.mono fun v x ⟨a, e, h⟩ => ⟨a, e, h.keeps (newer_dom fun b hb => same_dom (same_upd hWL) b (g0k.dom b hb))⟩
    have hil : its.length = tks.length := by rw [← hmap, List.length_map]
    have hwl : wvs.length = its.length := hwa.length
    have hTz : Hz TL = some (.lst ts) := gz.keep _ _ hTLp hTLq hTk
    have htaz : All2 (fun v (x : Tk) => ∃ a, v = V.ref a ∧ TaskAt C (newer H0 Hz) a x.1 x.2) ts tks := hta.mono fun v x ⟨a, e, h⟩ => ⟨a, e, h.keeps (newer_grow gz d0p d0q)⟩
    have g0z : Grow p q H0 Hz := g0k.trans gz
    have hTabz := tabs_grow hTab0 P0 g0z
    -- the run
    refine ⟨_, rfl, _, rfl, WL, rfl, ⟨_, SqL.of hWz⟩, fun D1 hD1 => ?_⟩
    have hbD : L2.upd Hz D1 (.lst []) D1 ≠ none := by rw [upd_same]; simp
    refine lcy (walk_list (K := K) (a := WL) (xs := wvs)) (fun i Hc => Same Hz Hc ∧ ∃ vs, Hc D1 = some (.lst vs) ∧ All2 (fun v (x : It3) => ∃ a, v = V.ref a ∧ LRows (newer (L2.upd Hz D1 (.lst [])) Hc) a (x.w.map jv)) vs (its.take i))
      ⟨same_upd hD1, [], upd_same, .nil⟩ (fun i Hc _ h => SqL.of (h.1 _ _ hWz)) ?_ ?_
    · rintro i x _ Hc hi ⟨sc, vs, hDc, hva⟩ ⟨rfl, hx⟩
      obtain ⟨it, hit, a', rfl, us, hus, hur⟩ := hwa.get hx
      have sx : Same (newer H0 Hz) Hc := (newer_sub _ _).trans sc
      have hw8 := (hwok it (List.mem_of_getElem? hit)).2.1
      have hul : us.length = it.w.length := by rw [hur.length, List.length_map]
      refine ⟨rfl, _, rfl, a', rfl, ⟨_, SqL.of (sx _ _ hus)⟩, fun E2 hE2 => ?_⟩
      refine lcy (walk_list (K := K) (a := a') (xs := us)) (fun j Hd => Same Hc Hd ∧ ∃ vs, Hd E2 = some (.lst vs) ∧ Rows (newer Hc Hd) vs ((it.w.take j).map jv)) ⟨same_upd hE2, [], upd_same, .nil⟩ (fun j Hd _ h => SqL.of (h.1 _ _ (sx _ _ hus))) ?_ ?_
      · rintro j x _ Hd hj ⟨sd, vs2, hEd, hrw⟩ ⟨rfl, hx⟩
        obtain ⟨xs, hxs, t, rfl, ht⟩ := hur.get hx
        rw [List.getElem?_map] at hxs
        obtain ⟨jb, hjb, rfl⟩ := Option.map_eq_some_iff.mp hxs
        have htd : Hd t = some (.tup (w4 it.ks (1 + v1) jb)) := sd _ _ (sx _ _ ht)
        refine ⟨rfl, _, rfl, t, _, 0, .str jb.1, rfl, rfl, SqT.of htd, atI_nat (j := 0) rfl, _, rfl, t, _, 1, .int jb.2.1, rfl, rfl, SqT.of htd, atI_nat (j := 1) rfl, _, rfl, t, _, 2, .int jb.2.2, rfl, rfl, SqT.of htd, atI_nat (j := 2) rfl, (by show 3 ≤ sizeLine; decide), fun t3 ht3 => ?_⟩
        have e1 := hrw.length
        rw [List.length_map, List.length_take] at e1
        refine ⟨vs2, by rw [upd_ne (ne_of_none hEd ht3)]; exact hEd, by rw [sizeLine_eq]; omega, same_up (same_up sd (Same.free sd ht3)) hE2, _, upd_same, ?_⟩
        rw [take_snoc hjb, List.map_append]
        exact rows_app (xs := jv jb) hrw hEd ht3 (Same.free sd ht3)
      rintro Hd ⟨sd, vs2, hEd, hrw⟩
      rw [hul, List.take_length] at hrw
      have e0 := hva.length
      rw [List.length_take] at e0
      have hDd := sd _ _ hDc
      refine ⟨vs, hDd, by rw [sizeLine_eq]; omega, same_up (sc.trans sd) hD1, _, upd_same, ?_⟩
      rw [take_snoc hit]
      refine (hva.mono fun v x ⟨a, e, h⟩ => ⟨a, e, (h.keeps (newer_same sd)).keeps (newer_upd hbD)⟩).snoc ⟨E2, rfl, ?_⟩
      have hlr : LRows (newer Hc Hd) E2 (it.w.map jv) := ⟨vs2, newer_at hE2 hEd, hrw⟩
      exact (hlr.keeps (newer_dom (dom_upd (same_dom sc) (ne_none hDc)))).keeps (newer_upd hbD)
    rintro Hy ⟨sy, dvs, hDy, hva⟩
    rw [hwl, List.take_length] at hva
    refine ⟨_, rfl, rfl, rfl, fun x dx hx hdx hne => ?_⟩
    have hok2 : ∀ y ∈ its, TaskOk y.ks y.as ∧ WalkOk y.ks y.as (1 + v1) y.w := fun y hy => ⟨htok (It3.tk y) (by rw [← hmap]; exact List.mem_map.mpr ⟨y, hy, rfl⟩), (hwok y hy).1⟩
    have htai : All2 (fun v (x : It3) => ∃ a, v = V.ref a ∧ TaskAt C (newer H0 Hz) a x.ks x.as) ts its := by
      rw [← hmap] at htaz
      exact htaz.ofmap
    refine ⟨x, dx, TL, D1, (1 + v1), its, Hy, rfl, rfl, hx, hdx, hne, ⟨⟨ts, sy _ _ hTz, ?_⟩, ⟨dvs, hDy, ?_⟩, hok2, ?_, by omega, hg1, hg2⟩, hTabz.ext sy, fun Hr js eN hTabr hperm hRun => ⟨rfl, ?_⟩⟩
    · exact htai.mono fun v y ⟨a, e, h⟩ => ⟨a, e, (h.keeps (newer_sub _ _)).keeps sy⟩
    · exact hva.mapr fun v y ⟨a, e, h⟩ => ⟨a, e, h.keeps (newer_sub _ _)⟩
    · have e1 := sum_len (its := its) (n := 8) fun y hy => by have := (hwok y hy).2.1; omega
      omega
    have eZ : LamX.ExtN Hz Hr := (LamX.ExtN.of sy).trans eN
    have eN0 := newer_extN (H0 := H0) eZ
    have Pr := Pz.ext eZ
    have hTr : Hr TL = some (.lst ts) := eZ _ _ hTz fun ps z => by cases z
    have hWr : Hr WL = some (.lst wvs) := eZ _ _ hWz fun ps z => by cases z
    have hwar : All2 (fun v (x : It3) => ∃ a, v = V.ref a ∧ LRows Hr a (x.w.map (w4 x.ks (1 + v1)))) wvs its := hwa.mono fun v x ⟨a, e, h⟩ => ⟨a, e, (h.ext eN0).keeps (newer_sub _ _)⟩
    have hLT : LTasks C Hr TL tks := ⟨ts, hTr, htaz.mono fun v x ⟨a, e, h⟩ => ⟨a, e, (h.ext eN0).keeps (newer_sub _ _)⟩⟩
    -- all jobs
    refine ⟨(by show 0 ≤ sizeLine; decide), fun J0 hJ0 => ?_⟩
    refine ⟨_, rfl, WL, rfl, ⟨_, SqL.of (same_upd hJ0 _ _ hWr)⟩, ?_⟩
    refine for_it (walk_list (K := K) (a := WL) (xs := wvs)) (fun i σ Hc => ∃ (J : Addr) (v6 : Option V) (vs : List V), σ = [some (.ref a), some (.ref p), some (.int (1 + v1)), some (.ref SP), some (.ref TL), some (.ref WL), v6, some (.ref x), some (.ref J), none, none, none, none, none, none, none, none, none, none, none] ∧ Same Hr Hc ∧ Hc J = some (.lst vs) ∧ Rows Hc vs ((al (1 + v1) (its.take i)).map j4v))
      ⟨J0, _, [], rfl, same_upd hJ0, upd_same, .nil⟩ (fun i σ Hc _ h => by
        obtain ⟨_, _, _, _, sc, _⟩ := h
        exact SqL.of (sc _ _ hWr)) ?_ ?_
    · rintro i x' σ _ Hc hi ⟨J, v6, vs, rfl, sc, hJ, hrw⟩ ⟨rfl, hx'⟩
      obtain ⟨it, hit, a', rfl, us, hus, hur⟩ := hwar.get hx'
      have hw8 := (hwok it (List.mem_of_getElem? hit)).2.1
      have e1 := hur.length
      have e2 := hrw.length
      have e3 := al_len (g := (1 + v1)) (its := its.take i) fun y hy => (hwok y (List.mem_of_mem_take hy)).2.1
      rw [List.length_map] at e1 e2
      rw [List.length_take] at e3
      refine ⟨_, rfl, _, rfl, J, a', vs, us, rfl, rfl, hJ, sc _ _ hus, by rw [sizeLine_eq]; omega, fun J' hJ' => ?_⟩
      have sJ : Same Hc (L2.upd Hc J' (.lst (vs ++ us))) := same_upd hJ'
      refine ⟨J', _, vs ++ us, rfl, sc.trans sJ, upd_same, ?_⟩
      rw [take_snoc hit, al_snoc, List.map_append, ← w4_j4]
      exact (Rows.keeps hrw sJ).app (Rows.keeps hur (sc.trans sJ))
    rintro σ Hj ⟨J, v6, jvs, rfl, sj, hJ, hJr⟩
    rw [hwl, List.take_length] at hJr
    obtain ⟨ALL, hALL⟩ : ∃ ALL, ALL = al (1 + v1) its := ⟨_, rfl⟩
    rw [← hALL] at hJr
    have hJl : jvs.length = ALL.length := by rw [hJr.length, List.length_map]
    have hA24 : ALL.length ≤ 24 := by
      have := al_len (g := (1 + v1)) (its := its) fun y hy => (hwok y hy).2.1
      rw [← hALL] at this
      omega
    have hAb : ∀ j ∈ ALL, 0 ≤ j.2.1 ∧ j.2.2.2 ≤ 300 * (1 + v1) := fun j hj => al_bound (g := (1 + v1)) (fun y hy => ⟨(hwok y hy).1, (hwok y hy).2.2⟩) (by rw [← hALL]; exact hj)
    -- as many as the run has
    obtain ⟨dxr, grr, lpr, hxr, hlpr⟩ := hRun.keeps sj
    refine ⟨_, rfl, x, dxr, _, rfl, hxr, x, js, rfl, hRun.keeps sj, fun l us hl hur => ⟨l, us, rfl, .inl (SqL.of upd_same), ?_⟩⟩
    have sm : Same Hj (L2.upd Hj l (.lst us)) := same_upd hl
    refine ⟨_, rfl, J, jvs, rfl, .inl (SqL.of (sm _ _ hJ)), rfl, false, ?_, ifF rfl ?_⟩
    · have e1 : us.length = js.length := by rw [hur.length, List.length_map]
      have e2 := hperm.length_eq
      rw [rowsV_al, ← hALL] at e2
      show V.bl (!decide (V.int (us.length : Int) = V.int (jvs.length : Int))) = V.bl false
      rw [e1, e2, hJl, decide_eq_true rfl]
      rfl
    generalize hHm : L2.upd Hj l (.lst us) = Hm at sm ⊢
    have hJm := sm _ _ hJ
    have hJrm : Rows Hm jvs (ALL.map j4v) := Rows.keeps hJr sm
    have srm : Same Hr Hm := sj.trans sm
    have Pm := Pr.keeps srm
    have hLTm := hLT.keeps srm
    -- the spans
    have hg0 : (0 : Int) < (1 + v1) := by omega
    refine ⟨(by show 1 ≤ sizeLine; decide), fun SN hSN => ?_⟩
    have sN : Same Hm (L2.upd Hm SN (.lst [.int 0])) := same_upd hSN
    have jtup : ∀ {i : Nat} {v : V}, jvs[i]? = some v → ∃ (t : Addr) (jb : J4), v = .ref t ∧ ALL[i]? = some jb ∧ Hm t = some (.tup (j4v jb)) := fun {i v} hv => by
      obtain ⟨xs, hxs, t, rfl, ht⟩ := hJrm.get hv
      rw [List.getElem?_map] at hxs
      obtain ⟨jb, hjb, rfl⟩ := Option.map_eq_some_iff.mp hxs
      exact ⟨t, jb, rfl, hjb, ht⟩
    refine ⟨_, rfl, J, rfl, ⟨_, SqL.of (sN _ _ hJm)⟩, ?_⟩
    refine for_it (walk_list (K := K) (a := J) (xs := jvs)) (fun i σ Hc => ∃ (v10 v11 : Option V) (ss : List Int), σ = [some (.ref a), some (.ref p), some (.int (1 + v1)), some (.ref SP), some (.ref TL), some (.ref WL), v6, some (.ref x), some (.ref J), some (.ref SN), v10, v11, none, none, none, none, none, none, none, none] ∧ Same Hm Hc ∧ Hc SN = some (.lst (ss.map V.int)) ∧ ss.length ≤ 1 + 24 * i ∧ 0 ∈ ss ∧ (∀ z ∈ ss, z ≤ 300) ∧ ∀ (c : Nat) (f : J4), c < i → ALL[c]? = some f → ∀ l ∈ ALL, (l.2.2.2 - f.2.1) / (1 + v1) ∈ ss)
      ⟨_, _, [0], rfl, sN, upd_same, (by decide), List.mem_cons_self .., (fun z hz => by simp at hz; omega), fun c f hc => absurd hc (Nat.not_lt_zero _)⟩ (fun i σ Hc _ h => by
        obtain ⟨_, _, _, _, sc, _⟩ := h
        exact SqL.of (sc _ _ hJm)) ?_ ?_
    · rintro i x' σ _ Hc hi ⟨v10, v11, ss, rfl, sc, hS, hsl2, hs0, hs300, hsm⟩ ⟨rfl, hx'⟩
      obtain ⟨tf, f, rfl, hf, htf⟩ := jtup hx'
      have hfb := hAb f (List.mem_of_getElem? hf)
      refine ⟨_, rfl, J, rfl, ⟨_, SqL.of (sc _ _ hJm)⟩, ?_⟩
      refine for_it (walk_list (K := K) (a := J) (xs := jvs)) (fun j σ Hc => ∃ (v11 : Option V) (ss : List Int), σ = [some (.ref a), some (.ref p), some (.int (1 + v1)), some (.ref SP), some (.ref TL), some (.ref WL), v6, some (.ref x), some (.ref J), some (.ref SN), some (.ref tf), v11, none, none, none, none, none, none, none, none] ∧ Same Hm Hc ∧ Hc SN = some (.lst (ss.map V.int)) ∧ ss.length ≤ 1 + 24 * i + j ∧ 0 ∈ ss ∧ (∀ z ∈ ss, z ≤ 300) ∧ (∀ (c : Nat) (f : J4), c < i → ALL[c]? = some f → ∀ l ∈ ALL, (l.2.2.2 - f.2.1) / (1 + v1) ∈ ss) ∧ ∀ (c : Nat) (l : J4), c < j → ALL[c]? = some l → (l.2.2.2 - f.2.1) / (1 + v1) ∈ ss)
        ⟨_, ss, rfl, sc, hS, hsl2, hs0, hs300, hsm, fun c f hc => absurd hc (Nat.not_lt_zero _)⟩ (fun i σ Hc _ h => by
          obtain ⟨_, _, _, sc, _⟩ := h
          exact SqL.of (sc _ _ hJm)) ?_ ?_
      · rintro j x' σ _ Hd hj ⟨v11, ss, rfl, sd, hS, hsl2, hs0, hs300, hsm, hsm2⟩ ⟨rfl, hx'⟩
        obtain ⟨tl, l, rfl, hl, htl⟩ := jtup hx'
        have hlb := hAb l (List.mem_of_getElem? hl)
        refine ⟨_, rfl, .inl ⟨rfl, _, SqL.of hS⟩, _, rfl, tl, _, 3, .int l.2.2.2, rfl, rfl, SqT.of (sd _ _ htl), atI_nat (j := 3) rfl, _, rfl, tf, _, 1, .int f.2.1, rfl, rfl, SqT.of (sd _ _ htf), atI_nat (j := 1) rfl, _, _, rfl, rfl, _, rfl, _, _, rfl, rfl, ⟨by omega, by omega⟩, SN, _, _, rfl, rfl, hS, ?_, ?_⟩
        · rw [List.length_map, sizeLine_eq]
          omega
        · refine ⟨_, ss ++ [(l.2.2.2 - f.2.1) / (1 + v1)], rfl, same_up sd hSN, by rw [upd_same, List.map_append]; rfl, ?_, List.mem_append_left _ hs0, fun z hz => ?_, fun c f' hc hf' l' hl' => List.mem_append_left _ (hsm c f' hc hf' l' hl'), fun c l' hc hl' => ?_⟩
          · rw [List.length_append, List.length_singleton]
            omega
          · rcases List.mem_append.mp hz with h | h
            · exact hs300 z h
            · have e : z = (l.2.2.2 - f.2.1) / (1 + v1) := by simpa using h
              rw [e]
              exact span_le hg0 hfb.1 hlb.2
          · by_cases hcj : c = j
            · subst hcj
              rw [hl] at hl'
              cases hl'
              exact List.mem_append_right _ (List.mem_singleton.mpr rfl)
            · exact List.mem_append_left _ (hsm2 c l' (by omega) hl')
      · rintro σ Hd ⟨v11, ss, rfl, sd, hS, hsl2, hs0, hs300, hsm, hsm2⟩
        rw [hJl] at hsl2 hsm2
        refine ⟨_, _, ss, rfl, sd, hS, by omega, hs0, hs300, fun c f' hc hf' l' hl' => ?_⟩
        by_cases hci : c = i
        · subst hci
          rw [hf] at hf'
          cases hf'
          obtain ⟨e, he, el⟩ := List.mem_iff_getElem.mp hl'
          exact hsm2 e l' he (by rw [List.getElem?_eq_getElem he, el])
        · exact hsm c f' (by omega) hf' l' hl'
    rintro σ Hn ⟨v10, v11, ss, rfl, sn, hS, hsl2, hs0, hs300, hsm⟩
    rw [hJl] at hsl2 hsm
    have hss : ∀ f ∈ ALL, ∀ l ∈ ALL, (l.2.2.2 - f.2.1) / (1 + v1) ∈ ss := fun f hf l hl => by
      obtain ⟨e, he, ef⟩ := List.mem_iff_getElem.mp hf
      exact hsm e f he (by rw [List.getElem?_eq_getElem he, ef]) l hl
    have hss2 : ss.length ≤ 600 := by omega
    -- the demand
    have hTn : Hn TL = some (.lst ts) := sn _ _ (srm _ _ hTr)
    have hLTn := hLTm.keeps sn
    refine ⟨_, rfl, TL, ts, rfl, .inl (SqL.of hTn), fun l3 hl3 => ?_⟩
    have s3' : Same Hn (L2.upd Hn l3 (.lst ts)) := same_upd hl3
    refine ⟨_, rfl, SN, ss, rfl, SqL.of (s3' _ _ hS), List.length_pos_of_mem hs0, fun mm hm hle => ?_⟩
    obtain ⟨TT, rfl⟩ := Int.eq_ofNat_of_zero_le (hle 0 hs0)
    have hTT := hs300 _ hm
    have hLT3 : LTasks C (L2.upd Hn l3 (.lst ts)) l3 tks := by
      obtain ⟨ts', h1, h2⟩ := hLTn
      rw [hTn] at h1
      cases h1
      exact ⟨ts, upd_same, h2.mono fun v x ⟨a, e, h⟩ => ⟨a, e, h.keeps s3'⟩⟩
    refine ⟨l3, TT, tks, rfl, hLT3, htok, by omega, by omega, fun He ML se hML0 => ?_⟩
    have hML : He ML = some (.lst (dml tks TT)) := newer_sub _ _ _ _ hML0
    have sme : Same Hm He := (sn.trans s3').trans se
    have hJe := sme _ _ hJm
    have hSe : He SN = some (.lst (ss.map V.int)) := se _ _ (s3' _ _ hS)
    have htds : ∀ t : Int, (tks.map fun x => td x.1 x.2 t).sum = (its.map fun x => td x.ks x.as t).sum := fun t => by
      rw [← hmap]
      exact td_sum
    -- the test
    refine ⟨_, rfl, J, rfl, ⟨_, SqL.of hJe⟩, ?_⟩
    refine for_it (walk_list (K := K) (a := J) (xs := jvs)) (fun i σ Hc => ∃ (v10 v11 v13 : Option V), σ = [some (.ref a), some (.ref p), some (.int (1 + v1)), some (.ref SP), some (.ref TL), some (.ref WL), v6, some (.ref x), some (.ref J), some (.ref SN), v10, v11, some (.ref ML), v13, none, none, none, none, none, none] ∧ Same He Hc) ⟨_, _, _, rfl, Same.refl _⟩ (fun i σ Hc _ h => by
        obtain ⟨_, _, _, _, sc⟩ := h
        exact SqL.of (sc _ _ hJe)) ?_ ?_
    · rintro i x' σ _ Hc hi ⟨v10, v11, v13, rfl, sc⟩ ⟨rfl, hx'⟩
      obtain ⟨tf, f, rfl, hf, htf0⟩ := jtup hx'
      have htf : He tf = some (.tup (j4v f)) := sme _ _ htf0
      have hfm := List.mem_of_getElem? hf
      refine ⟨_, rfl, J, rfl, ⟨_, SqL.of (sc _ _ hJe)⟩, ?_⟩
      refine for_it (walk_list (K := K) (a := J) (xs := jvs)) (fun j σ Hc => ∃ (v11 v13 : Option V), σ = [some (.ref a), some (.ref p), some (.int (1 + v1)), some (.ref SP), some (.ref TL), some (.ref WL), v6, some (.ref x), some (.ref J), some (.ref SN), some (.ref tf), v11, some (.ref ML), v13, none, none, none, none, none, none] ∧ Same He Hc) ⟨_, _, rfl, sc⟩ (fun i σ Hc _ h => by
          obtain ⟨_, _, _, sc⟩ := h
          exact SqL.of (sc _ _ hJe)) ?_ ?_
      · rintro j x' σ _ Hd hj ⟨v11, v13, rfl, sd⟩ ⟨rfl, hx'⟩
        obtain ⟨tl, l, rfl, hl, htl0⟩ := jtup hx'
        have htl : He tl = some (.tup (j4v l)) := sme _ _ htl0
        have hlm := List.mem_of_getElem? hl
        refine ⟨_, rfl, tf, _, 1, .int f.2.1, rfl, rfl, SqT.of (sd _ _ htf), atI_nat (j := 1) rfl, _, rfl, tl, _, 3, .int l.2.2.2, rfl, rfl, SqT.of (sd _ _ htl), atI_nat (j := 3) rfl, _, _, rfl, rfl, decide (f.2.1 ≤ l.2.2.2), rfl, ?_⟩
        by_cases hfl : f.2.1 ≤ l.2.2.2
        · refine ifT (decide_eq_true hfl) ?_
          refine ⟨_, rfl, J, rfl, ⟨_, SqL.of (sd _ _ hJe)⟩, fun D2 hD2 => ?_⟩
          refine lc_it (walk_list (K := K) (a := J) (xs := jvs)) (fun e Hq => Same Hd Hq ∧ Hq D2 = some (.lst ((((ALL.take e).filter fun j : J4 => decide (f.2.1 ≤ j.2.1) && decide (j.2.2.2 ≤ l.2.2.2)).map fun j => j.2.2.1).map V.int))) ⟨same_upd hD2, upd_same⟩ (fun e Hq _ h => SqL.of (h.1 _ _ (sd _ _ hJe))) ?_ ?_
          · rintro e x' _ Hq he ⟨sq, hDq⟩ ⟨rfl, hx'⟩
            obtain ⟨t, jb, rfl, hjb, ht0⟩ := jtup hx'
            have ht : Hq t = some (.tup (j4v jb)) := sq _ _ (sd _ _ (sme _ _ ht0))
            have hlen : ((((ALL.take e).filter fun j : J4 => decide (f.2.1 ≤ j.2.1) && decide (j.2.2.2 ≤ l.2.2.2)).map fun j => j.2.2.1).map V.int).length < sizeLine := by
              have e2 := List.length_filter_le (fun j : J4 => decide (f.2.1 ≤ j.2.1) && decide (j.2.2.2 ≤ l.2.2.2)) (ALL.take e)
              rw [List.length_take] at e2
              rw [List.length_map, List.length_map, sizeLine_eq]
              omega
            refine ⟨rfl, _, rfl, t, _, 1, .int jb.2.1, rfl, rfl, SqT.of ht, atI_nat (j := 1) rfl, _, rfl, tf, _, 1, .int f.2.1, rfl, rfl, SqT.of (sq _ _ (sd _ _ htf)), atI_nat (j := 1) rfl, _, _, rfl, rfl, decide (f.2.1 ≤ jb.2.1), rfl, ?_⟩
            by_cases q1 : f.2.1 ≤ jb.2.1
            · refine ifT (decide_eq_true q1) ?_
              refine ⟨_, rfl, t, _, 3, .int jb.2.2.2, rfl, rfl, SqT.of ht, atI_nat (j := 3) rfl, _, rfl, tl, _, 3, .int l.2.2.2, rfl, rfl, SqT.of (sq _ _ (sd _ _ htl)), atI_nat (j := 3) rfl, _, _, rfl, rfl, decide (jb.2.2.2 ≤ l.2.2.2), rfl, ?_⟩
              by_cases q2 : jb.2.2.2 ≤ l.2.2.2
              · refine ifT (decide_eq_true q2) ⟨_, rfl, t, _, 2, .int jb.2.2.1, rfl, rfl, SqT.of ht, atI_nat (j := 2) rfl, _, hDq, hlen, same_up sq hD2, ?_⟩
                rw [upd_same, take_snoc hjb, List.filter_append, List.filter_cons_of_pos (by simp [q1, q2]), List.map_append, List.map_append]
                rfl
              · refine ifF (decide_eq_false q2) ⟨sq, ?_⟩
                rw [take_snoc hjb, List.filter_append, List.filter_cons_of_neg (by simp [q2]), List.filter_nil, List.append_nil]
                exact hDq
            · refine ifF (decide_eq_false q1) (ifF rfl ⟨sq, ?_⟩)
              rw [take_snoc hjb, List.filter_append, List.filter_cons_of_neg (by simp [q1]), List.filter_nil, List.append_nil]
              exact hDq
          rintro Hq ⟨sq, hDq⟩
          rw [hJl, List.take_length] at hDq
          have seq : Same He Hq := sd.trans sq
          have hix0 : 0 ≤ (l.2.2.2 - f.2.1) / (1 + v1) := Int.ediv_nonneg (by omega) (by omega)
          obtain ⟨ix, eix⟩ := Int.eq_ofNat_of_zero_le hix0
          have hixT : ix ≤ TT := by
            have := hle _ (hss f hfm l hlm)
            omega
          have hask : (((ALL.filter fun j : J4 => decide (f.2.1 ≤ j.2.1) && decide (j.2.2.2 ≤ l.2.2.2)).map fun j => j.2.2.1).sum) ≤ (1 + v1) * (tks.map fun x => td x.1 x.2 (ix : Int)).sum := by
            rw [hALL, asked_eq, htds, ← eix]
            exact asked_le hg0 hfl hok2
          have hdm : (dml tks TT)[ix]? = some (.int ((tks.map fun x => td x.1 x.2 (ix : Int)).sum)) := by
            unfold dml
            rw [List.getElem?_map, List.getElem?_range (by omega)]
            rfl
          refine ⟨D2, _, rfl, SqL.of hDq, ?_⟩
          refine ⟨_, rfl, _, rfl, _, rfl, _, rfl, tl, _, 3, .int l.2.2.2, rfl, rfl, SqT.of (seq _ _ htl), atI_nat (j := 3) rfl, _, rfl, tf, _, 1, .int f.2.1, rfl, rfl, SqT.of (seq _ _ htf), atI_nat (j := 1) rfl, _, _, rfl, rfl, _, rfl, _, _, rfl, rfl, ⟨by omega, by omega⟩, ML, _, _, .int ((tks.map fun x => td x.1 x.2 (ix : Int)).sum), rfl, rfl, SqL.of (seq _ _ hML), ?_, _, _, rfl, rfl, .inl ⟨by omega, by omega⟩, _, _, rfl, rfl, false, congrArg V.bl (decide_eq_false (by omega)), ifF rfl ?_⟩
          · rw [eix]
            exact atI_nat hdm
          · exact ⟨_, _, rfl, seq⟩
        · exact ifF (decide_eq_false hfl) ⟨_, _, rfl, sd⟩
      · rintro σ Hd ⟨v11, v13, rfl, sd⟩
        exact ⟨_, _, _, rfl, sd⟩
    rintro σ Hf ⟨v10, v11, v13, rfl, sf⟩
    -- the ticks
    have hSf := sf _ _ hSe
    refine ⟨_, rfl, SN, rfl, ⟨_, SqL.of hSf⟩, fun TK hTK => ?_⟩
    refine lc_it (walk_list (K := K) (a := SN) (xs := ss.map V.int)) (fun e Hq => Same Hf Hq ∧ Hq TK = some (.lst (((ss.take e).filter fun z => decide (0 ≤ z) && decide (z ≤ 60)).map V.int))) ⟨same_upd hTK, upd_same⟩ (fun e Hq _ h => SqL.of (h.1 _ _ hSf)) ?_ ?_
    · rintro e x' _ Hq he ⟨sq, hDq⟩ ⟨rfl, hx'⟩
      rw [List.getElem?_map] at hx'
      obtain ⟨z, hz, rfl⟩ := Option.map_eq_some_iff.mp hx'
      have hlen : (((ss.take e).filter fun z => decide (0 ≤ z) && decide (z ≤ 60)).map V.int).length < sizeLine := by
        have e2 := List.length_filter_le (fun z : Int => decide (0 ≤ z) && decide (z ≤ 60)) (ss.take e)
        rw [List.length_take] at e2
        rw [List.length_map, sizeLine_eq]
        omega
      refine ⟨rfl, _, rfl, _, _, rfl, rfl, decide (0 ≤ z), rfl, ?_⟩
      by_cases q1 : 0 ≤ z
      · refine ifT (decide_eq_true q1) ⟨_, _, rfl, rfl, decide (z ≤ 60), rfl, ?_⟩
        by_cases q2 : z ≤ 60
        · refine ifT (decide_eq_true q2) ⟨_, rfl, _, hDq, hlen, same_up sq hTK, ?_⟩
          rw [upd_same, take_snoc hz, List.filter_append, List.filter_cons_of_pos (by simp [q1, q2]), List.map_append]
          rfl
        · refine ifF (decide_eq_false q2) ⟨sq, ?_⟩
          rw [take_snoc hz, List.filter_append, List.filter_cons_of_neg (by simp [q2]), List.filter_nil, List.append_nil]
          exact hDq
      · refine ifF (decide_eq_false q1) ⟨false, rfl, ifF rfl ⟨sq, ?_⟩⟩
        rw [take_snoc hz, List.filter_append, List.filter_cons_of_neg (by simp [q1]), List.filter_nil, List.append_nil]
        exact hDq
    rintro Hg ⟨sg, hTKg⟩
    rw [List.length_map, List.take_length] at hTKg
    obtain ⟨tk, htk⟩ : ∃ tk, tk = ss.filter fun z => decide (0 ≤ z) && decide (z ≤ 60) := ⟨_, rfl⟩
    rw [← htk] at hTKg
    have htk0 : 0 ∈ tk := by
      rw [htk]
      exact List.mem_filter.mpr ⟨hs0, by decide⟩
    have htkm : ∀ z ∈ tk, z ∈ ss ∧ 0 ≤ z ∧ z ≤ 60 := fun z hz => by
      rw [htk] at hz
      obtain ⟨h1, h2⟩ := List.mem_filter.mp hz
      exact ⟨h1, by simpa using h2⟩
    have htkl : tk.length ≤ 600 := by
      rw [htk]
      exact Nat.le_trans (List.length_filter_le _ _) hss2
    have htkp := List.length_pos_of_mem htk0
    have smg : Same Hm Hg := (sme.trans sf).trans sg
    have Pg := Pm.keeps smg
    have hTKp := ne_dom hTK (Pm.keeps (sme.trans sf)).dp
    have hTKq := ne_dom hTK (Pm.keeps (sme.trans sf)).dq
    refine ⟨_, rfl, _, rfl, _, rfl, TK, _, rfl, .inl (SqL.of hTKg), p, q, _, _, rfl, Pg, by omega, ?_, ?_, fun v Hh c0 c1 gh Ph => ?_⟩
    · rw [List.length_map]
      omega
    · rw [List.length_map]
      omega
    rw [List.length_map] at c1
    obtain ⟨c, rfl⟩ := Int.eq_ofNat_of_zero_le c0
    obtain ⟨at_, hat⟩ : ∃ z, tk[c]? = some z := ⟨_, List.getElem?_eq_getElem (by omega)⟩
    obtain ⟨ha1, ha2, ha3⟩ := htkm at_ (List.mem_of_getElem? hat)
    obtain ⟨AT, rfl⟩ := Int.eq_ofNat_of_zero_le ha2
    have hATT : AT ≤ TT := by
      have := hle _ ha1
      omega
    refine ⟨TK, _, (c : Int), .int (AT : Int), rfl, rfl, SqL.of (gh.keep _ _ hTKp hTKq hTKg), atI_nat (by rw [List.getElem?_map, hat]; rfl), ?_⟩
    -- the heavy run
    have shn : Same Hr Hg := srm.trans smg
    have hTg := shn _ _ hTr
    have hTh : Hh TL = some (.lst ts) := gh.keep _ _ hTLp hTLq hTg
    have htah : All2 (fun v (x : Tk) => ∃ a, v = V.ref a ∧ TaskAt C Hh a x.1 x.2) ts tks := htaz.mono fun v x ⟨a, e, h⟩ => ⟨a, e, (((h.ext eN0).keeps (newer_same shn)).keeps (newer_grow gh d0p d0q)).keeps (newer_sub _ _)⟩
    have hn3 := newer_none hML0
    have P3n := (Pm.keeps sn).keeps s3'
    have hMLp := ne_dom hn3 P3n.dp
    have hMLq := ne_dom hn3 P3n.dq
    have hMLh : Hh ML = some (.lst (dml tks TT)) := gh.keep _ _ hMLp hMLq (sg _ _ (sf _ _ hML))
    have hTabh := tabs_grow (hTabr.ext shn) Pg gh
    refine ⟨_, rfl, TL, ts, rfl, .inl (SqL.of hTh), fun l4 hl4 => ?_⟩
    have s4 : Same Hh (L2.upd Hh l4 (.lst ts)) := same_upd hl4
    refine ⟨_, rfl, l4, AT, tks, rfl, ⟨ts, upd_same, htah.mono fun v x ⟨a, e, h⟩ => ⟨a, e, h.keeps s4⟩⟩, htok, htl3, by omega, hTabh.ext s4, fun H7 rr js2 its2 eN7 T7 hRun2 hmap2 hperm2 hunt => ?_⟩
    obtain ⟨dx2, gr2, lp2, hx2, hlp2⟩ := id hRun2
    have hML7 : H7 ML = some (.lst (dml tks TT)) := eN7 _ _ (s4 _ _ hMLh) fun ps z => by cases z
    have hjl2 : js2.length ≤ 1000 * its2.length := by
      rw [hperm2.length_eq]
      exact rowsV_len its2 0 fun y hy => (hunt y hy).2
    have hil2 : its2.length ≤ 3 := by
      have e1 : its2.length = tks.length := by rw [← hmap2, List.length_map]
      omega
    refine ⟨rr, dx2, _, rfl, hx2, rr, js2, rfl, hRun2, fun l5 us5 hl5 hur5 => ⟨l5, rfl, ⟨_, SqL.of upd_same⟩, fun D5 hD5 => ?_⟩⟩
    have s5 : Same H7 (L2.upd H7 l5 (.lst us5)) := same_upd hl5
    generalize hH8 : L2.upd H7 l5 (.lst us5) = H8 at s5 hD5 ⊢
    have hl8 : H8 l5 = some (.lst us5) := by rw [← hH8]; exact upd_same
    have hul5 : us5.length = js2.length := by rw [hur5.length, List.length_map]
    refine lc_it (walk_list (K := K) (a := l5) (xs := us5)) (fun e Hq => Same H8 Hq ∧ Hq D5 = some (.lst ((((js2.take e).filter fun r : Jb => decide (r.d ≤ (AT : Int))).map fun r => r.c).map V.int))) ⟨same_upd hD5, upd_same⟩ (fun e Hq _ h => SqL.of (h.1 _ _ hl8)) ?_ ?_
    · rintro e x' _ Hq he ⟨sq, hDq⟩ ⟨rfl, hx'⟩
      obtain ⟨xs, hxs, t, rfl, ht⟩ := hur5.get hx'
      rw [List.getElem?_map] at hxs
      obtain ⟨jb, hjb, rfl⟩ := Option.map_eq_some_iff.mp hxs
      have htq : Hq t = some (.tup jb.vals) := sq _ _ (s5 _ _ ht)
      refine ⟨rfl, _, rfl, t, _, 5, .int jb.d, rfl, rfl, SqT.of htq, atI_nat (j := 5) rfl, _, rfl, _, _, rfl, rfl, decide (jb.d ≤ (AT : Int)), rfl, ?_⟩
      by_cases q1 : jb.d ≤ (AT : Int)
      · refine ifT (decide_eq_true q1) ⟨_, rfl, t, _, 4, .int jb.c, rfl, rfl, SqT.of htq, atI_nat (j := 4) rfl, _, hDq, ?_, same_up sq hD5, ?_⟩
        · have e2 := List.length_filter_le (fun r : Jb => decide (r.d ≤ (AT : Int))) (js2.take e)
          rw [List.length_take] at e2
          rw [List.length_map, List.length_map, sizeLine_eq]
          omega
        · rw [upd_same, take_snoc hjb, List.filter_append, List.filter_cons_of_pos (by simpa using q1), List.map_append, List.map_append]
          rfl
      · refine ifF (decide_eq_false q1) ⟨sq, ?_⟩
        rw [take_snoc hjb, List.filter_append, List.filter_cons_of_neg (by simpa using q1), List.filter_nil, List.append_nil]
        exact hDq
    rintro Hq ⟨sq, hDq⟩
    rw [hul5, List.take_length] at hDq
    have heq : ((js2.filter fun r : Jb => decide (r.d ≤ (AT : Int))).map fun r => r.c).sum = (tks.map fun x => td x.1 x.2 (AT : Int)).sum := by
      rw [perm_until hperm2, rowsV_until, until_sum fun y hy => (hunt y hy).1, ← hmap2]
      exact td_sum.symm
    have hdm : (dml tks TT)[AT]? = some (.int ((tks.map fun x => td x.1 x.2 (AT : Int)).sum)) := by
      unfold dml
      rw [List.getElem?_map, List.getElem?_range (by omega)]
      rfl
    refine ⟨D5, _, rfl, SqL.of hDq, _, rfl, _, rfl, ML, _, (AT : Int), _, rfl, rfl, SqL.of (sq _ _ (s5 _ _ hML7)), atI_nat hdm, rfl, ?_⟩
    have hfin : decide (V.int (((js2.filter fun r : Jb => decide (r.d ≤ (AT : Int))).map fun r => r.c).sum) = V.int ((tks.map fun x => td x.1 x.2 (AT : Int)).sum)) = true := decide_eq_true (by rw [heq])
    show Q (V.bl (decide (V.int (((js2.filter fun r : Jb => decide (r.d ≤ (AT : Int))).map fun r => r.c).sum) = V.int ((tks.map fun x => td x.1 x.2 (AT : Int)).sum)))) Hq
    rw [hfin]
    exact k _
end
end WD
/-! what the top has written, and the law's promise -/
namespace WD
open PySem PySem.Spec PyProof.Rows L2
/-- a def of the module -/
structure DefK (K : PySem.W.Frag) (x : Str) (st : Stmt) : Prop where
  ex : ∃ f fd, Fun K x x st f fd ∧ PySem.W.nsIn K mainGlobals x = some (some (.ref f))
theorem defk {K : PySem.W.Frag} {x : Str} {st : Stmt} {f : Addr} {oc : Value} {od an : Option Addr} {osl : Array (Option Value)} {kV doc pm cdv ct : Value} (a : PySem.W.nsIn K mainGlobals x = some (some (.ref f)))
    (l : K.lookup f = some ⟨oc, od, .func (PySem.W.fnOf x x (defArgs st) (defBody st) (defScope st) .none kV doc pm an cdv ct), osl⟩) (c : PySem.W.codeIn K cdv x = true) (k : PySem.W.keepIn K (.ref f) = true) : DefK K x st :=
  ⟨f, _, fun_mk l c k, a⟩
/-- a method without defaults -/
structure MethK (K : PySem.W.Frag) (C : Addr) (m qual : Str) (st : Stmt) : Prop where
  ex : ∃ f fd, Fun K m qual st f fd ∧ Meth K C m f
theorem methk {K : PySem.W.Frag} {C : Addr} {m qual : Str} {st : Stmt} {f : Addr} {oc : Value} {od an : Option Addr} {osl : Array (Option Value)} {kV doc pm cdv ct : Value} (a : PySem.W.findIn K (.ref C) m = some (some (.ref f))) (i : PySem.W.isFn K (.ref f) = true)
    (l : K.lookup f = some ⟨oc, od, .func (PySem.W.fnOf m qual (defArgs st) (defBody st) (defScope st) .none kV doc pm an cdv ct), osl⟩) (c : PySem.W.codeIn K cdv qual = true) (k : PySem.W.keepIn K (.ref f) = true) : MethK K C m qual st :=
  ⟨f, _, fun_mk l c k, a, i, k⟩
/-- a property -/
structure PropK (K : PySem.W.Frag) (C : Addr) (m qual : Str) (st : Stmt) : Prop where
  ex : ∃ p f fd, Fun K m qual st f fd ∧ PropOf K C m p f
theorem propk {K : PySem.W.Frag} {C : Addr} {m qual : Str} {st : Stmt} {p f : Addr} {oc : Value} {od an : Option Addr} {osl : Array (Option Value)} {kV doc pm cdv ct : Value} {rest : List Value} (a : PySem.W.findIn K (.ref C) m = some (some (.ref p)))
    (g : PySem.W.specialIn K (.ref p) "__get__" = some (some (.builtin "property.__get__"))) (t : PySem.W.takesIn K (.ref p) = some true) (r : PySem.W.recIn K p "property" = some (.ref f :: rest))
    (l : K.lookup f = some ⟨oc, od, .func (PySem.W.fnOf m qual (defArgs st) (defBody st) (defScope st) .none kV doc pm an cdv ct), osl⟩) (c : PySem.W.codeIn K cdv qual = true) (k : PySem.W.keepIn K (.ref f) = true) : PropK K C m qual st :=
  ⟨p, f, _, fun_mk l c k, a, g, t, rest, r⟩
theorem FunA.of {K : PySem.W.Frag} {m qual : Str} {st : Stmt} {f : Addr} {fd : FuncData} (F : Fun K m qual st f fd) : FunA K m qual st f fd := by
  obtain ⟨oc, od, kV, doc, pm, an, cdv, ct, osl, e, l, c⟩ := F.ex
  exact ⟨⟨oc, od, .none, kV, doc, pm, an, cdv, ct, osl, e, l, c⟩⟩
/-- Task.__init__ -/
structure TInitK (K : PySem.W.Frag) (C : Addr) : Prop where
  ex : ∃ f fd, FunA K "__init__" "Task.__init__" sTInit f fd ∧ Mk K C f ∧ Binds K fd ["self", "name", "kinds", "arrows"] []
theorem tinitk {K : PySem.W.Frag} {C : Addr} {f t : Addr} {oc : Value} {od an : Option Addr} {osl : Array (Option Value)} {kV doc pm cdv ct u oc2 : Value} {od2 : Option Addr} {n2 : Nat} {osl2 : Array (Option Value)} (a : PySem.W.findIn K (.ref C) "__init__" = some (some (.ref f))) (i : PySem.W.isFn K (.ref f) = true)
    (l : K.lookup f = some ⟨oc, od, .func (PySem.W.fnOf "__init__" "Task.__init__" (defArgs sTInit) (defBody sTInit) (defScope sTInit) (.ref t) kV doc pm an cdv ct), osl⟩) (c : PySem.W.codeIn K cdv "Task.__init__" = true)
    (lt : K.lookup t = some ⟨oc2, od2, .seq #[u] n2, osl2⟩) (mk : PySem.W.makesIn K C = true) (kc : PySem.W.keepIn K (.ref C) = true) : TInitK K C := by
  refine ⟨f, _, ⟨⟨oc, od, _, kV, doc, pm, an, cdv, ct, osl, rfl, l, c⟩⟩, ⟨mk, a, i, kc⟩, fun s us X hlen => BindsTo.of_looks fun M => ?_⟩
  have hl : us.length = 4 := by simpa using hlen
  match us, hl with
  | [x1, x2, x3, x4], _ =>
    obtain ⟨k, e1, e2⟩ : ∃ k, bindArgs (PySem.W.fnOf "__init__" "Task.__init__" (defArgs sTInit) (defBody sTInit) (defScope sTInit) (.ref t) kV doc pm an cdv ct) ⟨[x1, x2, x3, x4], []⟩ = seqItems? (.ref t) >>= k ∧
        k (some #[u]) = pure ((["self", "name", "kinds", "arrows"] : List Str).zip ([x1, x2, x3, x4] ++ [])) := ⟨_, rfl, rfl⟩
    rw [e1]
    exact looks_items X lt rfl (.of_pure e2)
/-- Run.__init__ -/
structure RInitK (K : PySem.W.Frag) (D c : Addr) : Prop where
  ex : ∃ f fd kg, FunC K "__init__" "Run.__init__" sRInit c f fd ∧ Mk K D f ∧ (∃ ds, Vals [V.int 1] ds ∧ Binds K fd ["self", "tasks", "walks", "grain"] ds) ∧ KBn K fd ["self", "tasks", "walks", "grain"] 3 ["grain"] kg (fun vs zs => vs ++ zs)
theorem rinitk {K : PySem.W.Frag} {D c : Addr} {f d : Addr} {oc : Value} {od an : Option Addr} {osl : Array (Option Value)} {doc pm ct : Value} {tk : Tok} (a : PySem.W.findIn K (.ref D) "__init__" = some (some (.ref f))) (i : PySem.W.isFn K (.ref f) = true)
    (l : K.lookup f = some ⟨oc, od, .func (PySem.W.fnOf "__init__" "Run.__init__" (defArgs sRInit) (defBody sRInit) (defScope sRInit) .none (.ref d) doc pm an (.ref c) ct), osl⟩) (cc : PySem.W.codeIn K (.ref c) "Run.__init__" = true)
    (ld : PySem.W.nsIn K d "grain" = some (some (.int 1 tk))) (k : PySem.W.keepIn K (.ref f) = true) (mk : PySem.W.makesIn K D = true) (kc : PySem.W.keepIn K (.ref D) = true) : RInitK K D c := by
  have FD : FunD K "__init__" "Run.__init__" (defArgs sRInit) (defBody sRInit) (defScope sRInit) [] [("grain", V.int 1)] f (PySem.W.fnOf "__init__" "Run.__init__" (defArgs sRInit) (defBody sRInit) (defScope sRInit) .none (.ref d) doc pm an (.ref c) ct) :=
    ⟨⟨oc, od, _, _, doc, pm, an, _, ct, osl, rfl, l, cc, .inl ⟨rfl, rfl⟩, .inr ⟨d, rfl, fun q hq => by
      rw [List.mem_singleton.mp hq]
      exact ⟨_, ld, tk, rfl⟩⟩⟩, k⟩
  obtain ⟨mv, kb⟩ := FD.kbinds0 (ps := ["self", "tasks", "walks", "grain"]) 3 ["grain"] [] (fun us _ ws => us ++ ws) (by simp) (fun q hq => by cases hq) (fun r1 _ r3 => r1.append r3) (fun D doc pm an cdv ct us mv ws h1 h2 h3 => match us, mv, ws, h1, h2, h3 with | [_, _, _], [], [_], _, _, _ => rfl)
  have b0 := FD.binds0 (ps := ["self", "tasks", "walks", "grain"]) 3 (by simp) rfl (fun D doc pm an cdv ct us ks h1 h2 => match us, ks, h1, h2 with | [_, _, _], [_], _, _ => ⟨_, _, _, _, _, _, rfl, rfl, rfl⟩)
  exact ⟨f, _, _, ⟨⟨oc, od, _, _, doc, pm, an, ct, osl, rfl, l, cc⟩⟩, ⟨mk, a, i, kc⟩, b0, kb⟩
theorem clsk {K : PySem.W.Frag} {C : Addr} (pg : PySem.W.plainGet K C Str.empty = true) (hd : PySem.W.hasDictIn K C = true) (po : PySem.W.plainOver K C = true) (sa : PySem.W.findIn K (.ref C) "__setattr__" = some (some (.builtin "object.__setattr__"))) : Cls K C := ⟨pg, hd, po, sa⟩
theorem taskck {K : PySem.W.Frag} {C : Addr} (c : Cls K C) (n1 : PySem.W.findIn K (.ref C) "name" = some none) (n2 : PySem.W.findIn K (.ref C) "kind_rows" = some none) (n3 : PySem.W.findIn K (.ref C) "arrow_rows" = some none) : TaskC K C := ⟨c, n1, n2, n3⟩
theorem runck {K : PySem.W.Frag} {D : Addr} (c : Cls K D) (n1 : PySem.W.findIn K (.ref D) "grain" = some none) (n2 : PySem.W.findIn K (.ref D) "placed" = some none) : RunC K D := ⟨c, n1, n2⟩
/-- the module's other names -/
structure GlK (K : PySem.W.Frag) : Prop where
  n_len : PySem.W.nsIn K mainGlobals "len" = some none
  n_sum : PySem.W.nsIn K mainGlobals "sum" = some none
  n_max : PySem.W.nsIn K mainGlobals "max" = some none
  n_min : PySem.W.nsIn K mainGlobals "min" = some none
  n_all : PySem.W.nsIn K mainGlobals "all" = some none
  n_int : PySem.W.nsIn K mainGlobals "int" = some none
  n_list : PySem.W.nsIn K mainGlobals "list" = some none
  n_sorted : PySem.W.nsIn K mainGlobals "sorted" = some none
  n_enumerate : PySem.W.nsIn K mainGlobals "enumerate" = some none
  n_range : PySem.W.nsIn K mainGlobals "range" = some none
  g_GRAIN_LIMIT : ∃ t, PySem.W.nsIn K mainGlobals "GRAIN_LIMIT" = some (some (.int 60 t))
  g_JOB_LIMIT : ∃ t, PySem.W.nsIn K mainGlobals "JOB_LIMIT" = some (some (.int 400 t))
  g_LETTERS : ∃ t, PySem.W.nsIn K mainGlobals "LETTERS" = some (some (.str letters t))
  g_OTHER_SIGNS : ∃ t, PySem.W.nsIn K mainGlobals "OTHER_SIGNS" = some (some (.str others t))
  g_LONGEST_NAME : ∃ t, PySem.W.nsIn K mainGlobals "LONGEST_NAME" = some (some (.int 12 t))
  g_MOST_KINDS : ∃ t, PySem.W.nsIn K mainGlobals "MOST_KINDS" = some (some (.int 4 t))
  g_MOST_ARROWS : ∃ t, PySem.W.nsIn K mainGlobals "MOST_ARROWS" = some (some (.int 12 t))
  g_MOST_GAP : ∃ t, PySem.W.nsIn K mainGlobals "MOST_GAP" = some (some (.int 12 t))
theorem glk {K : PySem.W.Frag} {T0 T1 T2 T3 T4 T5 T6 T7 : Tok} (z0 : PySem.W.nsIn K mainGlobals "len" = some none) (z1 : PySem.W.nsIn K mainGlobals "sum" = some none) (z2 : PySem.W.nsIn K mainGlobals "max" = some none) (z3 : PySem.W.nsIn K mainGlobals "min" = some none) (z4 : PySem.W.nsIn K mainGlobals "all" = some none) (z5 : PySem.W.nsIn K mainGlobals "int" = some none) (z6 : PySem.W.nsIn K mainGlobals "list" = some none) (z7 : PySem.W.nsIn K mainGlobals "sorted" = some none) (z8 : PySem.W.nsIn K mainGlobals "enumerate" = some none) (z9 : PySem.W.nsIn K mainGlobals "range" = some none) (y0 : PySem.W.nsIn K mainGlobals "GRAIN_LIMIT" = some (some (.int 60 T0))) (y1 : PySem.W.nsIn K mainGlobals "JOB_LIMIT" = some (some (.int 400 T1))) (y2 : PySem.W.nsIn K mainGlobals "LETTERS" = some (some (.str letters T2))) (y3 : PySem.W.nsIn K mainGlobals "OTHER_SIGNS" = some (some (.str others T3))) (y4 : PySem.W.nsIn K mainGlobals "LONGEST_NAME" = some (some (.int 12 T4))) (y5 : PySem.W.nsIn K mainGlobals "MOST_KINDS" = some (some (.int 4 T5))) (y6 : PySem.W.nsIn K mainGlobals "MOST_ARROWS" = some (some (.int 12 T6))) (y7 : PySem.W.nsIn K mainGlobals "MOST_GAP" = some (some (.int 12 T7))) : GlK K :=
  ⟨z0, z1, z2, z3, z4, z5, z6, z7, z8, z9, ⟨_, y0⟩, ⟨_, y1⟩, ⟨_, y2⟩, ⟨_, y3⟩, ⟨_, y4⟩, ⟨_, y5⟩, ⟨_, y6⟩, ⟨_, y7⟩⟩
theorem GlK.gs {K : PySem.W.Frag} {h : Heap} {mg : Str → Option Value} (g : GlK K) (X : K.In h) (G : h.Ns mainGlobals mg) : Gs mg := by
  obtain ⟨t_GRAIN_LIMIT, e_GRAIN_LIMIT⟩ := g.g_GRAIN_LIMIT
  obtain ⟨t_JOB_LIMIT, e_JOB_LIMIT⟩ := g.g_JOB_LIMIT
  obtain ⟨t_LETTERS, e_LETTERS⟩ := g.g_LETTERS
  obtain ⟨t_OTHER_SIGNS, e_OTHER_SIGNS⟩ := g.g_OTHER_SIGNS
  obtain ⟨t_LONGEST_NAME, e_LONGEST_NAME⟩ := g.g_LONGEST_NAME
  obtain ⟨t_MOST_KINDS, e_MOST_KINDS⟩ := g.g_MOST_KINDS
  obtain ⟨t_MOST_ARROWS, e_MOST_ARROWS⟩ := g.g_MOST_ARROWS
  obtain ⟨t_MOST_GAP, e_MOST_GAP⟩ := g.g_MOST_GAP
  exact ⟨PySem.W.mg_none_of X G g.n_len, PySem.W.mg_none_of X G g.n_sum, PySem.W.mg_none_of X G g.n_max, PySem.W.mg_none_of X G g.n_min, PySem.W.mg_none_of X G g.n_all, PySem.W.mg_none_of X G g.n_int, PySem.W.mg_none_of X G g.n_list, PySem.W.mg_none_of X G g.n_sorted, PySem.W.mg_none_of X G g.n_enumerate, PySem.W.mg_none_of X G g.n_range, ⟨t_GRAIN_LIMIT, PySem.W.mg_of X G e_GRAIN_LIMIT⟩, ⟨t_JOB_LIMIT, PySem.W.mg_of X G e_JOB_LIMIT⟩, ⟨t_LETTERS, PySem.W.mg_of X G e_LETTERS⟩, ⟨t_OTHER_SIGNS, PySem.W.mg_of X G e_OTHER_SIGNS⟩, ⟨t_LONGEST_NAME, PySem.W.mg_of X G e_LONGEST_NAME⟩, ⟨t_MOST_KINDS, PySem.W.mg_of X G e_MOST_KINDS⟩, ⟨t_MOST_ARROWS, PySem.W.mg_of X G e_MOST_ARROWS⟩, ⟨t_MOST_GAP, PySem.W.mg_of X G e_MOST_GAP⟩⟩
theorem all_mk {l : PySem.W.OpenLaw} {w : World} {K : PySem.W.Frag} {h : Heap} {mg : Str → Option Value} {fa C D c PT : Addr} (X : K.In h) (G : h.Ns mainGlobals mg) (hfa : mg "law" = some (.ref fa))
    (aC : PySem.W.nsIn K mainGlobals "Task" = some (some (.ref C))) (aD : PySem.W.nsIn K mainGlobals "Run" = some (some (.ref D))) (T : TaskC K C) (R : RunC K D) (gl : GlK K) (ti : TInitK K C) (ri : RInitK K D c) (pk : PropK K C "kinds" "Task.kinds" sTKinds) (pj : PropK K D "jobs" "Run.jobs" sRJobs)
    (m0 : MethK K C "row_of" "Task.row_of" sRowOf) (m1 : MethK K C "cost_of" "Task.cost_of" sCostOf) (m2 : MethK K C "deadline_of" "Task.deadline_of" sDeadlineOf) (m3 : MethK K C "followers" "Task.followers" sFollowers)
    (d0 : DefK K "is_name" sIsName) (d1 : DefK K "need_name" sNeedName) (d2 : DefK K "need_range" sNeedRange) (d3 : DefK K "need_kind" sNeedKind) (d4 : DefK K "checked_kinds" sCheckedKinds) (d5 : DefK K "checked_arrows" sCheckedArrows) (d6 : DefK K "gap_between" sGapBetween) (d7 : DefK K "check_job" sCheckJob) (d8 : DefK K "check_counts" sCheckCounts) (d9 : DefK K "kind_demands" sKindDemands) (d10 : DefK K "task_demand" sTaskDemand) (d11 : DefK K "demand" sDemand) (d12 : DefK K "heaviest_kind" sHeaviest) (d13 : DefK K "next_step" sNextStep) (d14 : DefK K "heavy_walk" sHeavyWalk) (d15 : DefK K "heavy_run" sHeavyRun) (d16 : DefK K "_law_pool" sPool) (d17 : DefK K "_law_draw" sDraw) (d18 : DefK K "_law_name" sName) (d19 : DefK K "_law_fresh" sFresh) (d20 : DefK K "_law_near" sNear) (d21 : DefK K "_law_number" sNumber) (d22 : DefK K "_law_spec" sSpec) (d23 : DefK K "_law_walk" sWalk) (d24 : DefK K "law" sLaw)
    (hT : h.get? PT = some { cls := .none, data := .fields #[] }) (nT : K.lookup PT = none) (hc : PySem.W.codeHdIn K c PT = true) : LamX.LawAtS l w K CX0 8 63 "_law_script" mg fa h := by
  obtain ⟨f0, fd0, F0, a0⟩ := d0.ex
  obtain ⟨f1, fd1, F1, a1⟩ := d1.ex
  obtain ⟨f2, fd2, F2, a2⟩ := d2.ex
  obtain ⟨f3, fd3, F3, a3⟩ := d3.ex
  obtain ⟨f4, fd4, F4, a4⟩ := d4.ex
  obtain ⟨f5, fd5, F5, a5⟩ := d5.ex
  obtain ⟨f6, fd6, F6, a6⟩ := d6.ex
  obtain ⟨f7, fd7, F7, a7⟩ := d7.ex
  obtain ⟨f8, fd8, F8, a8⟩ := d8.ex
  obtain ⟨f9, fd9, F9, a9⟩ := d9.ex
  obtain ⟨f10, fd10, F10, a10⟩ := d10.ex
  obtain ⟨f11, fd11, F11, a11⟩ := d11.ex
  obtain ⟨f12, fd12, F12, a12⟩ := d12.ex
  obtain ⟨f13, fd13, F13, a13⟩ := d13.ex
  obtain ⟨f14, fd14, F14, a14⟩ := d14.ex
  obtain ⟨f15, fd15, F15, a15⟩ := d15.ex
  obtain ⟨f16, fd16, F16, a16⟩ := d16.ex
  obtain ⟨f17, fd17, F17, a17⟩ := d17.ex
  obtain ⟨f18, fd18, F18, a18⟩ := d18.ex
  obtain ⟨f19, fd19, F19, a19⟩ := d19.ex
  obtain ⟨f20, fd20, F20, a20⟩ := d20.ex
  obtain ⟨f21, fd21, F21, a21⟩ := d21.ex
  obtain ⟨f22, fd22, F22, a22⟩ := d22.ex
  obtain ⟨f23, fd23, F23, a23⟩ := d23.ex
  obtain ⟨f24, fd24, F24, a24⟩ := d24.ex
  have e := hfa.symm.trans (PySem.W.mg_of X G a24)
  cases e
  refine ⟨fd24, [(c, PT)], spLaw K PT, ?_, ?_, ?_, ?_, ?_, fun base Xb Gb TB => ?_⟩
  · intro p hp
    rw [List.mem_singleton.mp hp]
    exact hT
  · intro p hp
    rw [List.mem_singleton.mp hp]
    exact nT
  · intro p hp
    rw [List.mem_singleton.mp hp]
    exact PySem.W.codeHd_of_K X hc
  · intro s u
    obtain ⟨oc, od, kV, doc, pm, an, cdv, ct, osl, rfl, lk, hcd⟩ := F24.ex
    exact .of_eq rfl
  · intro H a ns hl _ hH hS
    refine ⟨a, ns, rfl, hS, hl, ?_, fun _ => rfl⟩
    intro x hx
    rw [List.mem_singleton.mp hx]
    exact LamX.TabS.nil (hH (c, PT) (List.mem_singleton.mpr rfl))
  have g := gl.gs Xb Gb
  have TBc := TB (c, PT) (List.mem_singleton.mpr rfl)
  have b0 := F0.binds (ps := ["text"]) fun _ _ _ _ _ _ us hl => match us, hl with | [_], _ => rfl
  have b1 := F1.binds (ps := ["text"]) fun _ _ _ _ _ _ us hl => match us, hl with | [_], _ => rfl
  have b2 := F2.binds (ps := ["what", "value", "least", "most"]) fun _ _ _ _ _ _ us hl => match us, hl with | [_, _, _, _], _ => rfl
  have b3 := F3.binds (ps := ["name", "kind_rows"]) fun _ _ _ _ _ _ us hl => match us, hl with | [_, _], _ => rfl
  have b4 := F4.binds (ps := ["kinds", "branching"]) fun _ _ _ _ _ _ us hl => match us, hl with | [_, _], _ => rfl
  have b5 := F5.binds (ps := ["arrows", "kind_rows"]) fun _ _ _ _ _ _ us hl => match us, hl with | [_, _], _ => rfl
  have b6 := F6.binds (ps := ["task", "first", "second"]) fun _ _ _ _ _ _ us hl => match us, hl with | [_, _, _], _ => rfl
  have b7 := F7.binds (ps := ["task", "walk", "index", "place", "grain"]) fun _ _ _ _ _ _ us hl => match us, hl with | [_, _, _, _, _], _ => rfl
  have b8 := F8.binds (ps := ["tasks", "walks", "grain"]) fun _ _ _ _ _ _ us hl => match us, hl with | [_, _, _], _ => rfl
  have b9 := F9.binds (ps := ["task", "ticks"]) fun _ _ _ _ _ _ us hl => match us, hl with | [_, _], _ => rfl
  have b10 := F10.binds (ps := ["task", "ticks"]) fun _ _ _ _ _ _ us hl => match us, hl with | [_, _], _ => rfl
  have b11 := F11.binds (ps := ["tasks", "ticks"]) fun _ _ _ _ _ _ us hl => match us, hl with | [_, _], _ => rfl
  have b12 := F12.binds (ps := ["table", "kinds", "at"]) fun _ _ _ _ _ _ us hl => match us, hl with | [_, _, _], _ => rfl
  have b13 := F13.binds (ps := ["table", "followers", "left"]) fun _ _ _ _ _ _ us hl => match us, hl with | [_, _, _], _ => rfl
  have b14 := F14.binds (ps := ["task", "ticks"]) fun _ _ _ _ _ _ us hl => match us, hl with | [_, _], _ => rfl
  have b15 := F15.binds (ps := ["tasks", "ticks"]) fun _ _ _ _ _ _ us hl => match us, hl with | [_, _], _ => rfl
  have b16 := F16.binds (ps := ["_law_script"]) fun _ _ _ _ _ _ us hl => match us, hl with | [_], _ => rfl
  have b17 := F17.binds (ps := ["_law_pool_here", "_law_limit"]) fun _ _ _ _ _ _ us hl => match us, hl with | [_, _], _ => rfl
  have b18 := F18.binds (ps := ["_law_pool_here"]) fun _ _ _ _ _ _ us hl => match us, hl with | [_], _ => rfl
  have b19 := F19.binds (ps := ["_law_word", "_law_taken"]) fun _ _ _ _ _ _ us hl => match us, hl with | [_, _], _ => rfl
  have b20 := F20.binds (ps := ["_law_pool_here", "_law_taken"]) fun _ _ _ _ _ _ us hl => match us, hl with | [_, _], _ => rfl
  have b21 := F21.binds (ps := ["_law_pool_here", "_law_most"]) fun _ _ _ _ _ _ us hl => match us, hl with | [_, _], _ => rfl
  have b22 := F22.binds (ps := ["_law_pool_here"]) fun _ _ _ _ _ _ us hl => match us, hl with | [_], _ => rfl
  have b23 := F23.binds (ps := ["_law_pool_here", "_law_spec_here", "_law_parts"]) fun _ _ _ _ _ _ us hl => match us, hl with | [_, _, _], _ => rfl
  have b24 := F24.binds (ps := ["_law_script"]) fun _ _ _ _ _ _ us hl => match us, hl with | [_], _ => rfl
  obtain ⟨q0, qd0, M0, me0⟩ := m0.ex
  have mb0 := M0.binds (ps := ["self", "kind"]) fun _ _ _ _ _ _ us hl => match us, hl with | [_, _], _ => rfl
  obtain ⟨q1, qd1, M1, me1⟩ := m1.ex
  have mb1 := M1.binds (ps := ["self", "kind"]) fun _ _ _ _ _ _ us hl => match us, hl with | [_, _], _ => rfl
  obtain ⟨q2, qd2, M2, me2⟩ := m2.ex
  have mb2 := M2.binds (ps := ["self", "kind"]) fun _ _ _ _ _ _ us hl => match us, hl with | [_, _], _ => rfl
  obtain ⟨q3, qd3, M3, me3⟩ := m3.ex
  have mb3 := M3.binds (ps := ["self", "kind"]) fun _ _ _ _ _ _ us hl => match us, hl with | [_, _], _ => rfl
  obtain ⟨pp, pg, pd, PF, po⟩ := pk.ex
  have pb := PF.binds (ps := ["self"]) fun _ _ _ _ _ _ us hl => match us, hl with | [_], _ => rfl
  obtain ⟨jp, jg, jd, JF, jo⟩ := pj.ex
  have jb := JF.binds (ps := ["self"]) fun _ _ _ _ _ _ us hl => match us, hl with | [_], _ => rfl
  obtain ⟨tf_, td_, TF, TM, Tb⟩ := ti.ex
  obtain ⟨rf_, rd_, kg, RF, RM, ⟨rds, rv, Rb⟩, kb⟩ := ri.ex
  have MR := ok_rowOf (P := l.prog) (w := w) (mg := mg) (base := base) (FunA.of M0) T
  have MC := ok_costOf (FunA.of M1) T MR me0 mb0
  have MDl := ok_deadlineOf (FunA.of M2) T MR me0 mb0
  have MF := ok_followers (FunA.of M3) T MR me0 mb0
  have MK := ok_tKinds (P := l.prog) (w := w) (mg := mg) (base := base) (FunA.of PF) T g
  have MJ := ok_rJobs (P := l.prog) (w := w) (mg := mg) (base := base) (FunA.of JF) R g
  have c_is_name : Cal l.prog w K mg base "is_name" 1 ["text"] spIsName := ⟨⟨f0, fd0, ok_isName F0 g, PySem.W.mg_of X G a0, F0.kp, b0⟩⟩
  have c_need_name : Cal l.prog w K mg base "need_name" 2 ["text"] spNeedName := ⟨⟨f1, fd1, ok_needName F1 c_is_name, PySem.W.mg_of X G a1, F1.kp, b1⟩⟩
  have c_need_range : Cal l.prog w K mg base "need_range" 1 ["what", "value", "least", "most"] spNeedRange := ⟨⟨f2, fd2, ok_needRange F2, PySem.W.mg_of X G a2, F2.kp, b2⟩⟩
  have c_need_kind : Cal l.prog w K mg base "need_kind" 1 ["name", "kind_rows"] spNeedKind := ⟨⟨f3, fd3, ok_needKind F3, PySem.W.mg_of X G a3, F3.kp, b3⟩⟩
  have c_checked_kinds : Cal l.prog w K mg base "checked_kinds" 3 ["kinds", "branching"] spCheckedKinds := ⟨⟨f4, fd4, ok_checkedKinds F4 c_need_name c_need_range, PySem.W.mg_of X G a4, F4.kp, b4⟩⟩
  have c_checked_arrows : Cal l.prog w K mg base "checked_arrows" 3 ["arrows", "kind_rows"] spCheckedArrows := ⟨⟨f5, fd5, ok_checkedArrows F5 g c_need_kind c_need_range, PySem.W.mg_of X G a5, F5.kp, b5⟩⟩
  have TI := ok_tInit TF T g c_need_name c_checked_kinds c_checked_arrows
  have c_gap_between : Cal l.prog w K mg base "gap_between" 3 ["task", "first", "second"] (spGapBetween C) := ⟨⟨f6, fd6, ok_gapBetween F6 T MF me3 mb3, PySem.W.mg_of X G a6, F6.kp, b6⟩⟩
  have c_check_job : Cal l.prog w K mg base "check_job" 4 ["task", "walk", "index", "place", "grain"] (spCheckJob C) := ⟨⟨f7, fd7, ok_checkJob F7 T MC me1 mb1 c_gap_between, PySem.W.mg_of X G a7, F7.kp, b7⟩⟩
  have c_check_counts : Cal l.prog w K mg base "check_counts" 1 ["tasks", "walks", "grain"] spCheckCounts := ⟨⟨f8, fd8, ok_checkCounts F8 g, PySem.W.mg_of X G a8, F8.kp, b8⟩⟩
  have RI := ok_rInit RF T R g c_check_counts c_check_job MDl me2 mb2 TBc
  have c_kind_demands : Cal l.prog w K mg base "kind_demands" 4 ["task", "ticks"] (spKindDemands C) := ⟨⟨f9, fd9, ok_kindDemands F9 T g MF me3 mb3 MK po pb, PySem.W.mg_of X G a9, F9.kp, b9⟩⟩
  have c_task_demand : Cal l.prog w K mg base "task_demand" 5 ["task", "ticks"] (spTaskDemand C) := ⟨⟨f10, fd10, ok_taskDemand F10 g c_kind_demands, PySem.W.mg_of X G a10, F10.kp, b10⟩⟩
  have c_demand : Cal l.prog w K mg base "demand" 6 ["tasks", "ticks"] (spDemand C) := ⟨⟨f11, fd11, ok_demand F11 g c_task_demand, PySem.W.mg_of X G a11, F11.kp, b11⟩⟩
  have c_heaviest_kind : Cal l.prog w K mg base "heaviest_kind" 1 ["table", "kinds", "at"] spHeaviest := ⟨⟨f12, fd12, ok_heaviest F12, PySem.W.mg_of X G a12, F12.kp, b12⟩⟩
  have c_next_step : Cal l.prog w K mg base "next_step" 1 ["table", "followers", "left"] spNextStep := ⟨⟨f13, fd13, ok_nextStep F13, PySem.W.mg_of X G a13, F13.kp, b13⟩⟩
  have c_heavy_walk : Cal l.prog w K mg base "heavy_walk" 5 ["task", "ticks"] (spHeavyWalk C) := ⟨⟨f14, fd14, ok_heavyWalk F14 T g MF me3 mb3 MK po pb c_kind_demands c_heaviest_kind c_next_step, PySem.W.mg_of X G a14, F14.kp, b14⟩⟩
  have c_heavy_run : Cal l.prog w K mg base "heavy_run" 7 ["tasks", "ticks"] (spHeavyRun C D PT) := ⟨⟨f15, fd15, ok_heavyRun F15 T g MC me1 mb1 c_heavy_walk ⟨⟨rf_, rd_, rds, RM, RI, rv, Rb⟩, PySem.W.mg_of X G aD⟩, PySem.W.mg_of X G a15, F15.kp, b15⟩⟩
  have c__law_pool : Cal l.prog w K mg base "_law_pool" 1 ["_law_script"] (spPool K) := ⟨⟨f16, fd16, ok_pool F16 g, PySem.W.mg_of X G a16, F16.kp, b16⟩⟩
  have c__law_draw : Cal l.prog w K mg base "_law_draw" 1 ["_law_pool_here", "_law_limit"] spDraw := ⟨⟨f17, fd17, ok_draw F17 g, PySem.W.mg_of X G a17, F17.kp, b17⟩⟩
  have c__law_name : Cal l.prog w K mg base "_law_name" 2 ["_law_pool_here"] spName := ⟨⟨f18, fd18, ok_name F18 g c__law_draw, PySem.W.mg_of X G a18, F18.kp, b18⟩⟩
  have c__law_fresh : Cal l.prog w K mg base "_law_fresh" 1 ["_law_word", "_law_taken"] spFresh := ⟨⟨f19, fd19, ok_fresh F19, PySem.W.mg_of X G a19, F19.kp, b19⟩⟩
  have c__law_near : Cal l.prog w K mg base "_law_near" 3 ["_law_pool_here", "_law_taken"] spNear := ⟨⟨f20, fd20, ok_near F20 c__law_draw c__law_name c__law_fresh, PySem.W.mg_of X G a20, F20.kp, b20⟩⟩
  have c__law_number : Cal l.prog w K mg base "_law_number" 2 ["_law_pool_here", "_law_most"] spNumber := ⟨⟨f21, fd21, ok_number F21 c__law_draw, PySem.W.mg_of X G a21, F21.kp, b21⟩⟩
  have c__law_spec : Cal l.prog w K mg base "_law_spec" 4 ["_law_pool_here"] spSpec := ⟨⟨f22, fd22, ok_spec F22 g c__law_draw c__law_name c__law_near c__law_number, PySem.W.mg_of X G a22, F22.kp, b22⟩⟩
  have c__law_walk : Cal l.prog w K mg base "_law_walk" 2 ["_law_pool_here", "_law_spec_here", "_law_parts"] spWalk := ⟨⟨f23, fd23, ok_walk F23 g c__law_draw, PySem.W.mg_of X G a23, F23.kp, b23⟩⟩
  exact ok_law F24 T R g c__law_pool c__law_draw c__law_spec c__law_walk c_demand c_heavy_run TM TI Tb (PySem.W.mg_of X G aC) RM RI kb (PySem.W.mg_of X G aD) MJ jo jb
end WD
open PySem PySem.W PyProof.Rows
set_option maxRecDepth 100000 in
set_option maxHeartbeats 0 in
theorem PySem.Challenge.cw_walkdues_k19_whole_no_run_asks_more_holds : PySem.Challenge.rw_walkdues_k19_whole_no_run_asks_more.Holds := by
  w_on; o_law; k_head; (case hw => w_witness2)
  k_fill
  refine LamX.walk_ofTs (l := PySem.Challenge.rw_walkdues_k19_whole_no_run_asks_more) (n := 63) (k := 8) (x := "_law_script") (CX := fun _ => L2.CX0) rfl (by decide) rfl ⟨rfl, by decide, by decide⟩ (fun w h Y => PySem.W.km_in_of Y) ?F fun _ _ _ _ _ z => z
  case F =>
    intro w mg fa h Y KX G hmg
    refine' WD.all_mk (PT := 253) KX G hmg ?aC ?aD ?T ?R ?gl ?ti ?ri ?pk ?pj ?m0 ?m1 ?m2 ?m3 ?d0 ?d1 ?d2 ?d3 ?d4 ?d5 ?d6 ?d7 ?d8 ?d9 ?d10 ?d11 ?d12 ?d13 ?d14 ?d15 ?d16 ?d17 ?d18 ?d19 ?d20 ?d21 ?d22 ?d23 ?d24 ?hT ?nT ?hcd
    (case aC => k_is)
    (case aD => k_is)
    (case T => (refine' WD.taskck ?c ?n1 ?n2 ?n3; (case c => (refine' WD.clsk ?pg ?hd ?po ?sa; (case pg => k_is); (case hd => k_is); (case po => k_is); (case sa => k_is))); (case n1 => k_is); (case n2 => k_is); (case n3 => k_is)))
    (case R => (refine' WD.runck ?c ?n1 ?n2; (case c => (refine' WD.clsk ?pg ?hd ?po ?sa; (case pg => k_is); (case hd => k_is); (case po => k_is); (case sa => k_is))); (case n1 => k_is); (case n2 => k_is)))
    (case gl => (refine' WD.glk ?z0 ?z1 ?z2 ?z3 ?z4 ?z5 ?z6 ?z7 ?z8 ?z9 ?y0 ?y1 ?y2 ?y3 ?y4 ?y5 ?y6 ?y7; (case z0 => k_is); (case z1 => k_is); (case z2 => k_is); (case z3 => k_is); (case z4 => k_is); (case z5 => k_is); (case z6 => k_is); (case z7 => k_is); (case z8 => k_is); (case z9 => k_is); (case y0 => k_is); (case y1 => k_is); (case y2 => k_is); (case y3 => k_is); (case y4 => k_is); (case y5 => k_is); (case y6 => k_is); (case y7 => k_is)))
    (case ti => (refine' WD.tinitk ?a ?i ?l ?c ?lt ?mk ?kc; (case a => k_is); (case i => k_is); (case l => k_is); (case c => k_is); (case lt => k_is); (case mk => k_is); (case kc => k_is)))
    (case ri => (refine' WD.rinitk ?a ?i ?l ?cc ?ld ?k ?mk ?kc; (case a => k_is); (case i => k_is); (case l => k_is); (case cc => k_is); (case ld => k_is); (case k => k_is); (case mk => k_is); (case kc => k_is)))
    (case pk => (refine' WD.propk ?a ?g ?t ?r ?l ?c ?k; (case a => k_is); (case g => k_is); (case t => k_is); (case r => k_is); (case l => k_is); (case c => k_is); (case k => k_is)))
    (case pj => (refine' WD.propk ?a ?g ?t ?r ?l ?c ?k; (case a => k_is); (case g => k_is); (case t => k_is); (case r => k_is); (case l => k_is); (case c => k_is); (case k => k_is)))
    (case m0 => (refine' WD.methk ?a ?i ?l ?c ?k; (case a => k_is); (case i => k_is); (case l => k_is); (case c => k_is); (case k => k_is)))
    (case m1 => (refine' WD.methk ?a ?i ?l ?c ?k; (case a => k_is); (case i => k_is); (case l => k_is); (case c => k_is); (case k => k_is)))
    (case m2 => (refine' WD.methk ?a ?i ?l ?c ?k; (case a => k_is); (case i => k_is); (case l => k_is); (case c => k_is); (case k => k_is)))
    (case m3 => (refine' WD.methk ?a ?i ?l ?c ?k; (case a => k_is); (case i => k_is); (case l => k_is); (case c => k_is); (case k => k_is)))
    (case d0 => (refine' WD.defk ?a ?l ?c ?k; (case a => k_is); (case l => k_is); (case c => k_is); (case k => k_is)))
    (case d1 => (refine' WD.defk ?a ?l ?c ?k; (case a => k_is); (case l => k_is); (case c => k_is); (case k => k_is)))
    (case d2 => (refine' WD.defk ?a ?l ?c ?k; (case a => k_is); (case l => k_is); (case c => k_is); (case k => k_is)))
    (case d3 => (refine' WD.defk ?a ?l ?c ?k; (case a => k_is); (case l => k_is); (case c => k_is); (case k => k_is)))
    (case d4 => (refine' WD.defk ?a ?l ?c ?k; (case a => k_is); (case l => k_is); (case c => k_is); (case k => k_is)))
    (case d5 => (refine' WD.defk ?a ?l ?c ?k; (case a => k_is); (case l => k_is); (case c => k_is); (case k => k_is)))
    (case d6 => (refine' WD.defk ?a ?l ?c ?k; (case a => k_is); (case l => k_is); (case c => k_is); (case k => k_is)))
    (case d7 => (refine' WD.defk ?a ?l ?c ?k; (case a => k_is); (case l => k_is); (case c => k_is); (case k => k_is)))
    (case d8 => (refine' WD.defk ?a ?l ?c ?k; (case a => k_is); (case l => k_is); (case c => k_is); (case k => k_is)))
    (case d9 => (refine' WD.defk ?a ?l ?c ?k; (case a => k_is); (case l => k_is); (case c => k_is); (case k => k_is)))
    (case d10 => (refine' WD.defk ?a ?l ?c ?k; (case a => k_is); (case l => k_is); (case c => k_is); (case k => k_is)))
    (case d11 => (refine' WD.defk ?a ?l ?c ?k; (case a => k_is); (case l => k_is); (case c => k_is); (case k => k_is)))
    (case d12 => (refine' WD.defk ?a ?l ?c ?k; (case a => k_is); (case l => k_is); (case c => k_is); (case k => k_is)))
    (case d13 => (refine' WD.defk ?a ?l ?c ?k; (case a => k_is); (case l => k_is); (case c => k_is); (case k => k_is)))
    (case d14 => (refine' WD.defk ?a ?l ?c ?k; (case a => k_is); (case l => k_is); (case c => k_is); (case k => k_is)))
    (case d15 => (refine' WD.defk ?a ?l ?c ?k; (case a => k_is); (case l => k_is); (case c => k_is); (case k => k_is)))
    (case d16 => (refine' WD.defk ?a ?l ?c ?k; (case a => k_is); (case l => k_is); (case c => k_is); (case k => k_is)))
    (case d17 => (refine' WD.defk ?a ?l ?c ?k; (case a => k_is); (case l => k_is); (case c => k_is); (case k => k_is)))
    (case d18 => (refine' WD.defk ?a ?l ?c ?k; (case a => k_is); (case l => k_is); (case c => k_is); (case k => k_is)))
    (case d19 => (refine' WD.defk ?a ?l ?c ?k; (case a => k_is); (case l => k_is); (case c => k_is); (case k => k_is)))
    (case d20 => (refine' WD.defk ?a ?l ?c ?k; (case a => k_is); (case l => k_is); (case c => k_is); (case k => k_is)))
    (case d21 => (refine' WD.defk ?a ?l ?c ?k; (case a => k_is); (case l => k_is); (case c => k_is); (case k => k_is)))
    (case d22 => (refine' WD.defk ?a ?l ?c ?k; (case a => k_is); (case l => k_is); (case c => k_is); (case k => k_is)))
    (case d23 => (refine' WD.defk ?a ?l ?c ?k; (case a => k_is); (case l => k_is); (case c => k_is); (case k => k_is)))
    (case d24 => (refine' WD.defk ?a ?l ?c ?k; (case a => k_is); (case l => k_is); (case c => k_is); (case k => k_is)))
    (case hT => exact PySem.W.km_tabs_of Y 253 (List.mem_singleton.mpr rfl))
    (case nT => kernel_rfl)
    (case hcd => kernel_rfl)
