import PyProof.Rows.All
import Wide.All
import OpenK.AllK
import Wide.FinOn
import KE.KStateDown
import KE.GoesEnum
import HandS.ForMost
import HandS.SortRule
import HandS.SortInts
import HandS.Walk
import HandS.IsInst
import HandS.Deep
import HandS.TupAny
import HandS.DictComp
import HandS.Flow
import HandS.Codes
import HandS.Defaults
import PySem.Challenge.RW_aheadfold_k25_whole_whatever_the_order_o
import HandS.Conv
import Lean
import HandS.Head0
import HandS.Head1
import HandS.Head2
import HandS.HeadEnd
import HandS.HeadHook1
import HandS.HeadHook2
set_option Elab.async false
set_option linter.all false
/-! The plain law: webs as (count of rooms, list of arrows), folds, confluence up to names, rounds kept. Core Lean alone. -/
namespace AF
/-- from which rooms arrows lead to a room -/
def col (ps : List (Nat × Nat)) (x : Nat) : List Nat := (ps.filter fun p => decide (p.2 = x)).map (·.1)
def Good (n : Nat) (ps : List (Nat × Nat)) : Prop := 1 ≤ n ∧ (∀ p ∈ ps, p.1 < n ∧ p.2 < n) ∧ ∀ r, r < n → ∃ p ∈ ps, p.1 = r
def ren (a b r : Nat) : Nat := if r = b then a else if r > b then r - 1 else r
def foldW (ps : List (Nat × Nat)) (a b : Nat) : List (Nat × Nat) := (ps.filter fun p => decide (p.2 ≠ b)).map fun p => (ren a b p.1, ren a b p.2)
/-- the pair folds -/
def CanFold (n : Nat) (ps : List (Nat × Nat)) (a b : Nat) : Prop := a < b ∧ b < n ∧ (col ps a).Perm (col ps b)
def NoFold (n : Nat) (ps : List (Nat × Nat)) : Prop := ∀ a b, a < b → b < n → ¬ (col ps a).Perm (col ps b)
/-- a chain of folds -/
inductive Chain (n : Nat) (ps : List (Nat × Nat)) : Nat → List (Nat × Nat) → Prop
  | nil : Chain n ps n ps
  | snoc {m qs a b} (c : Chain n ps m qs) (h : CanFold m qs a b) : Chain n ps (m - 1) (foldW qs a b)

theorem mem_col {ps : List (Nat × Nat)} {x y : Nat} : y ∈ col ps x ↔ (y, x) ∈ ps := by
  unfold col
  rw [List.mem_map]
  constructor
  · rintro ⟨⟨a, b⟩, hm, rfl⟩
    have h := List.mem_filter.mp hm
    have e : b = x := of_decide_eq_true h.2
    rw [← e]
    exact h.1
  · intro h
    exact ⟨(y, x), List.mem_filter.mpr ⟨h, decide_eq_true rfl⟩, rfl⟩

/-! ### ren -/
section
variable {a b n r s : Nat}
theorem ren_b : ren a b b = a := if_pos rfl
theorem ren_lt (h : r < b) : ren a b r = r := by
  unfold ren
  rw [if_neg (by omega), if_neg (by omega)]
theorem ren_gt (h : b < r) : ren a b r = r - 1 := by
  unfold ren
  rw [if_neg (by omega), if_pos h]
theorem ren_bound (hab : a < b) (hb : b < n) (h : r < n) : ren a b r < n - 1 := by
  unfold ren
  split
  · omega
  · split <;> omega
theorem ren_onto (hab : a < b) (hb : b < n) {y : Nat} (h : y < n - 1) : ∃ x, x < n ∧ x ≠ b ∧ ren a b x = y := by
  by_cases c : y < b
  · exact ⟨y, by omega, by omega, ren_lt c⟩
  · exact ⟨y + 1, by omega, by omega, by rw [ren_gt (by omega)]; omega⟩
theorem ren_inj (hr : r ≠ b) (hs : s ≠ b) (h : ren a b r = ren a b s) : r = s := by
  unfold ren at h
  rw [if_neg hr, if_neg hs] at h
  split at h <;> split at h <;> omega
theorem ren_ker (hab : a < b) (h : ren a b r = ren a b s) : r = s ∨ (r = a ∧ s = b) ∨ (r = b ∧ s = a) := by
  by_cases hr : r = b
  · by_cases hs : s = b
    · exact .inl (hr.trans hs.symm)
    · subst hr
      have e : ren a r a = a := ren_lt hab
      rw [ren_b, ← e] at h
      rw [e] at h
      have h2 : ren a r a = ren a r s := e.trans h
      exact .inr (.inr ⟨rfl, (ren_inj (by omega) hs h2).symm⟩)
  · by_cases hs : s = b
    · subst hs
      have e : ren a s a = a := ren_lt hab
      rw [ren_b] at h
      exact .inr (.inl ⟨ren_inj hr (by omega) (h.trans e.symm), rfl⟩)
    · exact .inl (ren_inj hr hs h)
end

/-! ### a map of webs that keeps columns -/
structure Mor (n : Nat) (ps : List (Nat × Nat)) (m : Nat) (qs : List (Nat × Nat)) (f : Nat → Nat) : Prop where
  into : ∀ x, x < n → f x < m
  onto : ∀ y, y < m → ∃ x, x < n ∧ f x = y
  cols : ∀ x, x < n → (col qs (f x)).Perm ((col ps x).map f)

theorem Mor.id (n : Nat) (ps : List (Nat × Nat)) : Mor n ps n ps (fun x => x) :=
  ⟨fun _ h => h, fun y h => ⟨y, h, rfl⟩, fun x _ => by rw [List.map_id']⟩
theorem Mor.comp {n m k : Nat} {ps qs us : List (Nat × Nat)} {f g : Nat → Nat} (F : Mor n ps m qs f) (G : Mor m qs k us g) : Mor n ps k us (fun x => g (f x)) where
  into := fun x h => G.into _ (F.into x h)
  onto := fun y h => by
    obtain ⟨z, hz, e⟩ := G.onto y h
    obtain ⟨x, hx, e2⟩ := F.onto z hz
    exact ⟨x, hx, by rw [e2, e]⟩
  cols := fun x h => by
    refine (G.cols _ (F.into x h)).trans ?_
    have z := (F.cols x h).map g
    rw [List.map_map] at z
    exact z

theorem col_fold {ps : List (Nat × Nat)} {a b x n : Nat} (hx : x ≠ b) (hb : ∀ p ∈ ps, p.2 < n) : col (foldW ps a b) (ren a b x) = (col ps x).map (ren a b) := by
  unfold col foldW
  rw [List.filter_map, List.map_map, List.filter_filter, List.map_map]
  have e : (ps.filter fun p => (((fun p : Nat × Nat => decide (p.2 = ren a b x)) ∘ fun p => (ren a b p.1, ren a b p.2)) p) && decide (p.2 ≠ b)) = ps.filter fun p => decide (p.2 = x) := by
    apply List.filter_congr
    intro p hp
    show (decide (ren a b p.2 = ren a b x) && decide (p.2 ≠ b)) = decide (p.2 = x)
    by_cases h1 : p.2 = b
    · have h2 : ¬ p.2 = x := fun z => hx (z.symm.trans h1)
      have h3 : decide (p.2 ≠ b) = false := decide_eq_false fun z => z h1
      rw [h3, decide_eq_false h2, Bool.and_false]
    · have h3 : decide (p.2 ≠ b) = true := decide_eq_true h1
      rw [h3, Bool.and_true]
      by_cases h2 : p.2 = x
      · rw [decide_eq_true h2, decide_eq_true (by rw [h2])]
      · rw [decide_eq_false h2, decide_eq_false (fun z => h2 (ren_inj h1 hx z))]
  rw [e]
  rfl
theorem Mor.step {m : Nat} {qs : List (Nat × Nat)} {a b : Nat} (G : Good m qs) (h : CanFold m qs a b) : Mor m qs (m - 1) (foldW qs a b) (ren a b) where
  into := fun x hx => ren_bound h.1 h.2.1 hx
  onto := fun y hy => by
    obtain ⟨x, hx, _, e⟩ := ren_onto h.1 h.2.1 hy
    exact ⟨x, hx, e⟩
  cols := fun x hx => by
    obtain ⟨hab, hb, hc⟩ := h
    by_cases e : x = b
    · subst e
      have e1 : ren a x x = ren a x a := by rw [ren_b, ren_lt hab]
      rw [e1, col_fold (n := m) (by omega) fun p hp => (G.2.1 p hp).2]
      exact hc.map _
    · rw [col_fold (n := m) e fun p hp => (G.2.1 p hp).2]
theorem Good.step {m : Nat} {qs : List (Nat × Nat)} {a b : Nat} (G : Good m qs) (h : CanFold m qs a b) : Good (m - 1) (foldW qs a b) := by
  obtain ⟨hab, hb, hc⟩ := h
  refine ⟨by omega, fun p hp => ?_, fun r hr => ?_⟩
  · unfold foldW at hp
    obtain ⟨q, hq, rfl⟩ := List.mem_map.mp hp
    have hm := (List.mem_filter.mp hq).1
    exact ⟨ren_bound hab hb (G.2.1 q hm).1, ren_bound hab hb (G.2.1 q hm).2⟩
  · obtain ⟨x, hx, _, rfl⟩ := ren_onto hab hb hr
    obtain ⟨p, hp, rfl⟩ := G.2.2 x hx
    by_cases e : p.2 = b
    · have h1 : p.1 ∈ col qs b := mem_col.mpr (by rw [← e]; exact hp)
      have h2 : p.1 ∈ col qs a := hc.mem_iff.mpr h1
      have h3 := mem_col.mp h2
      refine ⟨(ren a b p.1, ren a b a), ?_, rfl⟩
      unfold foldW
      exact List.mem_map.mpr ⟨(p.1, a), List.mem_filter.mpr ⟨h3, decide_eq_true (by omega)⟩, rfl⟩
    · refine ⟨(ren a b p.1, ren a b p.2), ?_, rfl⟩
      unfold foldW
      exact List.mem_map.mpr ⟨p, List.mem_filter.mpr ⟨hp, decide_eq_true e⟩, rfl⟩
theorem Chain.good {n : Nat} {ps : List (Nat × Nat)} (G : Good n ps) : ∀ {m : Nat} {qs : List (Nat × Nat)}, Chain n ps m qs → Good m qs
  | _, _, .nil => G
  | _, _, .snoc c h => (c.good G).step h

/-! ### the kernel of a chain is the least likeness -/
theorem factor {n : Nat} {f g : Nat → Nat} (h : ∀ x y, x < n → y < n → f x = f y → g x = g y) : ∃ k : Nat → Nat, ∀ x, x < n → k (f x) = g x := by
  refine ⟨fun c => ((((List.range n).find? fun x => decide (f x = c)).map g).getD 0), fun x hx => ?_⟩
  show ((((List.range n).find? fun y => decide (f y = f x)).map g).getD 0) = g x
  cases e : (List.range n).find? fun y => decide (f y = f x) with
  | none =>
    have := List.find?_eq_none.mp e x (List.mem_range.mpr hx)
    simp at this
  | some y =>
    have h1 : f y = f x := of_decide_eq_true (List.find?_some (p := fun y => decide (f y = f x)) e)
    have h2 := List.mem_range.mp (List.mem_of_find?_eq_some e)
    exact h y x h2 hx h1
/-- what a chain makes one, every map to a web in which nothing folds makes one -/
theorem Chain.least {n : Nat} {ps : List (Nat × Nat)} (G : Good n ps) : ∀ {m : Nat} {qs : List (Nat × Nat)}, Chain n ps m qs →
    ∃ f, Mor n ps m qs f ∧ ∀ (k : Nat) (us : List (Nat × Nat)) (g : Nat → Nat), Mor n ps k us g → NoFold k us → ∀ x y, x < n → y < n → f x = f y → g x = g y
  | _, _, .nil => ⟨_, Mor.id n ps, fun k us g _ _ x y _ _ e => by rw [show x = y from e]⟩
  | _, _, .snoc (m := m) (qs := qs) (a := a) (b := b) c h => by
    obtain ⟨f, F, ker⟩ := Chain.least G c
    refine ⟨_, F.comp (Mor.step (c.good G) h), fun k us g U hu x y hx hy e => ?_⟩
    obtain ⟨kk, hk⟩ := factor (ker k us g U hu)
    -- two rooms with the same column in qs have the same image
    have key : ∀ x y, x < n → y < n → (col qs (f x)).Perm (col qs (f y)) → g x = g y := fun x y hx hy hp => by
      have hmap : ∀ z, z < n → ((col ps z).map f).map kk = (col ps z).map g := fun z hz => by
        rw [List.map_map]
        apply List.map_congr_left
        intro w hw
        exact hk w (G.2.1 _ (mem_col.mp hw)).1
      have p1 : ((col ps x).map f).Perm ((col ps y).map f) := (F.cols x hx).symm.trans (hp.trans (F.cols y hy))
      have p2 := p1.map kk
      rw [hmap x hx, hmap y hy] at p2
      have p3 : (col us (g x)).Perm (col us (g y)) := (U.cols x hx).trans (p2.trans (U.cols y hy).symm)
      rcases Nat.lt_trichotomy (g x) (g y) with l | l | l
      · exact absurd p3 (hu _ _ l (U.into y hy))
      · exact l
      · exact absurd p3.symm (hu _ _ l (U.into x hx))
    rcases ren_ker h.1 e with z | ⟨z1, z2⟩ | ⟨z1, z2⟩
    · exact ker k us g U hu x y hx hy z
    · exact key x y hx hy (by rw [z1, z2]; exact h.2.2)
    · exact key x y hx hy (by rw [z1, z2]; exact h.2.2.symm)

/-! ### the naming -/
theorem count_pair {ps : List (Nat × Nat)} {c d : Nat} : ps.count (c, d) = (col ps d).count c := by
  induction ps with
  | nil => rfl
  | cons p r ih =>
    obtain ⟨x, y⟩ := p
    unfold col at ih ⊢
    rw [List.count_cons, ih, List.filter_cons]
    by_cases h1 : y = d
    · subst h1
      rw [if_pos (decide_eq_true rfl), List.map_cons, List.count_cons]
      congr 1
      by_cases h2 : x = c
      · subst h2; simp
      · rw [if_neg (by simp [h2]), if_neg (by simp [h2])]
    · rw [if_neg (by simp [h1]), if_neg (by simp [h1])]
      rfl
theorem inj_le {n m : Nat} {f : Nat → Nat} (hf : ∀ x, x < n → f x < m) (hi : ∀ x y, x < n → y < n → f x = f y → x = y) : n ≤ m := by
  have h1 : ((List.range n).map f).Nodup := by
    rw [List.nodup_iff_pairwise_ne]
    rw [List.pairwise_map]
    have h0 := List.nodup_range (n := n)
    rw [List.nodup_iff_pairwise_ne] at h0
    refine h0.imp_of_mem ?_
    intro a b ha hb hne e
    exact hne (hi a b (List.mem_range.mp ha) (List.mem_range.mp hb) e)
  have h2 : (List.range n).map f ⊆ List.range m := by
    intro z hz
    obtain ⟨x, hx, rfl⟩ := List.mem_map.mp hz
    exact List.mem_range.mpr (hf x (List.mem_range.mp hx))
  have := h1.length_le_of_subset h2
  rw [List.length_map, List.length_range, List.length_range] at this
  exact this
/-- two ends of chains in which nothing folds are the same but for names -/
theorem same_but_names {n m k : Nat} {ps qs us : List (Nat × Nat)} (G : Good n ps) (c1 : Chain n ps m qs) (c2 : Chain n ps k us) (h1 : NoFold m qs) (h2 : NoFold k us) :
    m = k ∧ ∃ π : Nat → Nat, (∀ x, x < m → π x < m) ∧ (∀ x y, x < m → y < m → π x = π y → x = y) ∧ (qs.map fun p => (π p.1, π p.2)).Perm us := by
  obtain ⟨f, F, kf⟩ := c1.least G
  obtain ⟨g, Gm, kg⟩ := c2.least G
  have k1 := kf k us g Gm h2
  have k2 := kg m qs f F h1
  obtain ⟨π, hπ⟩ := factor k1
  obtain ⟨σ, hσ⟩ := factor k2
  have into : ∀ x, x < m → π x < k := fun y hy => by
    obtain ⟨x, hx, rfl⟩ := F.onto y hy
    rw [hπ x hx]
    exact Gm.into x hx
  have back : ∀ y, y < m → σ (π y) = y := fun y hy => by
    obtain ⟨x, hx, rfl⟩ := F.onto y hy
    rw [hπ x hx, hσ x hx]
  have into2 : ∀ x, x < k → σ x < m := fun y hy => by
    obtain ⟨x, hx, rfl⟩ := Gm.onto y hy
    rw [hσ x hx]
    exact F.into x hx
  have back2 : ∀ y, y < k → π (σ y) = y := fun y hy => by
    obtain ⟨x, hx, rfl⟩ := Gm.onto y hy
    rw [hσ x hx, hπ x hx]
  have inj : ∀ x y, x < m → y < m → π x = π y → x = y := fun x y hx hy e => by rw [← back x hx, e, back y hy]
  have inj2 : ∀ x y, x < k → y < k → σ x = σ y → x = y := fun x y hx hy e => by rw [← back2 x hx, e, back2 y hy]
  have emk : m = k := Nat.le_antisymm (inj_le into inj) (inj_le into2 inj2)
  subst emk
  refine ⟨rfl, π, into, inj, ?_⟩
  have GQ := c1.good G
  have GU := c2.good G
  have cols : ∀ d, d < m → (col us (π d)).Perm ((col qs d).map π) := fun d hd => by
    obtain ⟨x, hx, rfl⟩ := F.onto d hd
    rw [hπ x hx]
    have e : ((col ps x).map f).map π = (col ps x).map g := by
      rw [List.map_map]
      apply List.map_congr_left
      intro w hw
      exact hπ w (G.2.1 _ (mem_col.mp hw)).1
    have z := (F.cols x hx).map π
    rw [e] at z
    exact (Gm.cols x hx).trans z.symm
  -- by counts
  rw [List.perm_iff_count]
  rintro ⟨c, d⟩
  rw [count_pair, count_pair]
  by_cases hd : d < m
  · -- d = π (σ d)
    have ed := back2 d hd
    have e1 : col (qs.map fun p => (π p.1, π p.2)) d = (col qs (σ d)).map π := by
      unfold col
      rw [List.filter_map, List.map_map, List.map_map]
      have e : (qs.filter ((fun p : Nat × Nat => decide (p.2 = d)) ∘ fun p => (π p.1, π p.2))) = qs.filter fun p => decide (p.2 = σ d) := by
        apply List.filter_congr
        intro p hp
        show decide (π p.2 = d) = decide (p.2 = σ d)
        have hl := (GQ.2.1 p hp).2
        by_cases h : p.2 = σ d
        · rw [decide_eq_true h, decide_eq_true (by rw [h]; exact ed)]
        · rw [decide_eq_false h, decide_eq_false fun z => h (inj _ _ hl (into2 d hd) (z.trans ed.symm))]
      rw [e]
      rfl
    rw [e1]
    have z := cols (σ d) (into2 d hd)
    rw [ed] at z
    exact z.symm.count_eq c
  · have z1 : col us d = [] := by
      unfold col
      rw [List.map_eq_nil_iff, List.filter_eq_nil_iff]
      intro p hp h
      have := (GU.2.1 p hp).2
      have e : p.2 = d := of_decide_eq_true h
      omega
    have z2 : col (qs.map fun p => (π p.1, π p.2)) d = [] := by
      unfold col
      rw [List.map_eq_nil_iff, List.filter_eq_nil_iff]
      intro p hp h
      obtain ⟨q, hq, rfl⟩ := List.mem_map.mp hp
      have := into _ (GQ.2.1 q hq).2
      have e : π q.2 = d := of_decide_eq_true h
      omega
    rw [z1, z2]
end AF

namespace AF
/-! ### rounds -/
def sm (n : Nat) (F : Nat → Int) : Int := ((List.range n).map F).sum
theorem sm_zero (F : Nat → Int) : sm 0 F = 0 := rfl
theorem isum_append (a b : List Int) : (a ++ b).sum = a.sum + b.sum := by
  induction a with
  | nil => simp
  | cons x r ih => rw [List.cons_append, List.sum_cons, List.sum_cons, ih]; omega
theorem sm_succ (n : Nat) (F : Nat → Int) : sm (n + 1) F = sm n F + F n := by
  unfold sm
  rw [List.range_succ, List.map_append, isum_append]
  show _ + (F n + 0) = _
  rw [Int.add_zero]
theorem sm_congr {n : Nat} {F G : Nat → Int} (h : ∀ i, i < n → F i = G i) : sm n F = sm n G := by
  induction n with
  | zero => rfl
  | succ n ih => rw [sm_succ, sm_succ, ih fun i hi => h i (by omega), h n (by omega)]
theorem sm_add (n : Nat) (F G : Nat → Int) : sm n (fun i => F i + G i) = sm n F + sm n G := by
  induction n with
  | zero => rfl
  | succ n ih => rw [sm_succ, sm_succ, sm_succ, ih]; omega
theorem sm_0 (n : Nat) : sm n (fun _ => 0) = 0 := by
  induction n with
  | zero => rfl
  | succ n ih => rw [sm_succ, ih]; rfl
theorem sm_swap (n m : Nat) (F : Nat → Nat → Int) : sm n (fun i => sm m fun j => F i j) = sm m fun j => sm n fun i => F i j := by
  induction n with
  | zero =>
    rw [sm_zero]
    rw [show (fun j => sm 0 fun i => F i j) = fun _ => 0 from rfl, sm_0]
  | succ n ih =>
    rw [sm_succ, ih, ← sm_add]
    apply sm_congr
    intro j _
    rw [sm_succ]
/-- the sum of a list of sums -/
theorem sum_sm (l : List Nat) (m : Nat) (F : Nat → Nat → Int) : (l.map fun i => sm m fun j => F i j).sum = sm m fun j => (l.map fun i => F i j).sum := by
  induction l with
  | nil => show (0 : Int) = sm m fun _ => 0; rw [sm_0]
  | cons x r ih =>
    rw [List.map_cons, List.sum_cons, ih, ← sm_add]
    apply sm_congr
    intro j _
    rw [List.map_cons, List.sum_cons]
/-- one term -/
theorem sm_one {n k : Nat} (hk : k < n) (c : Int) : sm n (fun i => if i = k then c else 0) = c := by
  induction n with
  | zero => omega
  | succ n ih =>
    rw [sm_succ]
    by_cases e : k = n
    · subst e
      rw [if_pos rfl]
      have : sm k (fun i => if i = k then c else 0) = 0 := by
        rw [sm_congr (G := fun _ => 0) fun i hi => if_neg (by omega), sm_0]
      omega
    · rw [ih (by omega), if_neg (by omega)]; omega
theorem isum_perm {a b : List Int} (h : a.Perm b) : a.sum = b.sum := by
  induction h with
  | nil => rfl
  | cons x _ ih => rw [List.sum_cons, List.sum_cons, ih]
  | swap x y l => simp only [List.sum_cons]; omega
  | trans _ _ h1 h2 => rw [h1, h2]

/-- rows of length L from a room to a room, by the arrows that lead to it -/
def paths (ps : List (Nat × Nat)) (h : Nat) : Nat → Nat → Int
  | 0, r => if r = h then 1 else 0
  | L + 1, r => ((col ps r).map fun y => paths ps h L y).sum
def roundsM (n : Nat) (ps : List (Nat × Nat)) (L : Nat) : Int := sm n fun h => paths ps h L h

section
variable {n m : Nat} {ps qs : List (Nat × Nat)} {f : Nat → Nat}
theorem paths_mor (G : Good n ps) (F : Mor n ps m qs f) : ∀ (L : Nat) (c x : Nat), x < n → paths qs c L (f x) = sm n fun h => if f h = c then paths ps h L x else 0
  | 0, c, x, hx => by
    show (if f x = c then (1 : Int) else 0) = sm n fun h => if f h = c then (if x = h then 1 else 0) else 0
    rw [sm_congr (G := fun h => if h = x then (if f x = c then 1 else 0) else 0) fun h _ => ?_, sm_one hx]
    show (if f h = c then (if x = h then (1 : Int) else 0) else 0) = if h = x then (if f x = c then 1 else 0) else 0
    by_cases e : h = x
    · subst e; simp
    · have e2 : ¬ x = h := fun z => e z.symm
      simp [e, e2]
  | L + 1, c, x, hx => by
    show ((col qs (f x)).map fun y => paths qs c L y).sum = sm n fun h => if f h = c then ((col ps x).map fun y => paths ps h L y).sum else 0
    rw [isum_perm ((F.cols x hx).map _), List.map_map]
    have e1 : ((col ps x).map ((fun y => paths qs c L y) ∘ f)) = (col ps x).map fun y => sm n fun h => if f h = c then paths ps h L y else 0 := by
      apply List.map_congr_left
      intro y hy
      exact paths_mor G F L c y (G.2.1 _ (mem_col.mp hy)).1
    rw [e1, sum_sm]
    apply sm_congr
    intro h _
    by_cases e : f h = c
    · simp only [e, if_true]
    · simp only [e, if_false]
      generalize col ps x = l
      induction l with
      | nil => rfl
      | cons a r ih => rw [List.map_cons, List.sum_cons, ih]; rfl
theorem rounds_step {a b : Nat} (G : Good m qs) (h : CanFold m qs a b) (L : Nat) : roundsM (m - 1) (foldW qs a b) (L + 1) = roundsM m qs (L + 1) := by
  have F := Mor.step G h
  have same : ∀ x y h', ren a b x = ren a b y → paths qs h' (L + 1) x = paths qs h' (L + 1) y := fun x y h' e => by
    show ((col qs x).map fun y => paths qs h' L y).sum = ((col qs y).map fun y => paths qs h' L y).sum
    rcases ren_ker h.1 e with z | ⟨z1, z2⟩ | ⟨z1, z2⟩
    · rw [z]
    · rw [z1, z2]; exact isum_perm (h.2.2.map _)
    · rw [z1, z2]; exact isum_perm (h.2.2.symm.map _)
  unfold roundsM
  have e1 : ∀ c, c < m - 1 → paths (foldW qs a b) c (L + 1) c = sm m fun h' => if ren a b h' = c then paths qs h' (L + 1) h' else 0 := fun c hc => by
    obtain ⟨x, hx, e⟩ := F.onto c hc
    have z := paths_mor G F (L + 1) c x hx
    rw [e] at z
    rw [z]
    apply sm_congr
    intro h' _
    by_cases q : ren a b h' = c
    · rw [if_pos q, if_pos q]
      exact same x h' h' (e.trans q.symm)
    · rw [if_neg q, if_neg q]
  rw [sm_congr e1, sm_swap]
  apply sm_congr
  intro h' hh
  rw [sm_congr (G := fun c => if c = ren a b h' then paths qs h' (L + 1) h' else 0) fun c _ => ?_, sm_one (F.into h' hh)]
  by_cases e : ren a b h' = c
  · rw [if_pos e, if_pos e.symm]
  · rw [if_neg e, if_neg fun z => e z.symm]
theorem Chain.rounds (G : Good n ps) (L : Nat) : ∀ {m : Nat} {qs : List (Nat × Nat)}, Chain n ps m qs → roundsM m qs (L + 1) = roundsM n ps (L + 1)
  | _, _, .nil => rfl
  | _, _, .snoc c h => by rw [rounds_step (c.good G) h, c.rounds G L]
end
end AF

set_option maxRecDepth 100000
set_option maxHeartbeats 4000000
/-! Rules that the hand layer lacks: xs[i] op= e, enumerate of a tuple, sorted of a tuple of pairs, len of an own instance. -/
namespace AW
open PySem PySem.Spec PyProof.Rows L2

section
variable {X : Cx}
/-! ### xs[i] as the read of xs[i] op= e -/
def rGetN (K : PySem.W.Frag) : V → V → Hp → VK → Prop := fun o i H Q => ∃ (p : Addr) (xs : List V) (j : Nat) (v : V), o = .ref p ∧ i = .int (j : Int) ∧ SqL K H p xs ∧ xs[j]? = some v ∧ Q v H
theorem get_list : PGet X (rGetN X.K) := by
  intro pins s σ H o i ov iv Q I ro ri h
  obtain ⟨p, xs, j, z, rfl, rfl, hq, he, q⟩ := h
  cases ro
  obtain ⟨t, rfl⟩ := ri
  obtain ⟨its, r, pl, hz⟩ := I.list hq
  obtain ⟨w, ew, rw'⟩ := r.get he
  have hn := line63
  have hj := (List.getElem?_eq_some_iff.mp he).1
  exact wpAny_getItem_list pl.isList (by omega) (by omega) (by simpa using ew) ⟨z, H, I, rw', q⟩

/-! ### len(x), x an instance of an own class with __len__ -/
def rLenOwn (C : Addr) (sp : Sp) : List V → Hp → VK → Prop := fun xs H Q => ∃ a dx fs, xs = [V.ref a] ∧ H a = some (.ins C dx fs) ∧ sp [.ref a] H (fun z H' => ∃ n : Int, z = .int n ∧ 0 ≤ n ∧ n < 2 ^ 63 ∧ Q (.int n) H') E0
theorem call_lenOwn {C g : Addr} {fd : FuncData} {k : Nat} {ps : List Str} {sp : Sp} (hs : PySem.W.findIn X.K (.ref C) "__len__" = some (some (.ref g))) (hf : PySem.W.isFn X.K (.ref g) = true)
    (F : FnOk X.prog X.w X.K X.mg X.base CX0 k g fd ps sp) (hr : Room (k + 1) X.A) (hb : Binds X.K fd ps []) : CallR X (.builtin "len") (rLenOwn C sp) := by
  intro pins s σ H xs us Q I r h
  obtain ⟨a, dx, fs, rfl, ha, q⟩ := h
  obtain ⟨u, rfl, ru⟩ := vals1 r
  obtain rfl : u = Value.ref a := ru
  obtain ⟨mA, O, _, _, _, _⟩ := ins_get I.hok ha
  obtain ⟨od, J, _⟩ := O.look
  obtain ⟨m, hF⟩ := I.fr
  refine PySem.W.len_K hF I.mod.kin J hs hf ?_
  have r2 : Vals [V.ref a] [Value.ref a] := .cons rfl .nil
  have hl : [Value.ref a].length = ps.length := F.len [V.ref a] H _ _ q
  have hbd := hb s [Value.ref a] I.kIn (by rw [List.append_nil]; exact hl)
  rw [List.append_nil] at hbd
  refine wpAny_call (codeAny_mono (F.run X.A.in1 X.stack s H ⟨[Value.ref a], []⟩ [Value.ref a] [V.ref a] _ _ hr.in1 I.env0.in1 hbd r2 q) fun r s' hq => ?_)
  cases r with
  | error e => exact (show False from hq).elim
  | ok fl =>
    cases fl with
    | ret u =>
      obtain ⟨z, H', I', rz, n, rfl, h0, h1, hQ⟩ := I.after hq
      obtain ⟨t, rfl⟩ := rz
      exact ⟨⟨h0, h1⟩, .int n, H', I'.tok _, ⟨_, rfl⟩, hQ⟩
    | next => exact False.elim hq
    | brk => exact False.elim hq
    | cont => exact False.elim hq
end

/-! ### sorted(t), t a tuple of pairs of ints -/
section
variable {prog : Program} {w : World} {A : Around} {E : Value → Shared → Prop} {s : Shared}
open Srt SrtO in
theorem sorted_tupP {l : Addr} {vs : List Value} {o : Obj} {n : Nat} {k : Value → Int × Int} {Q : Value → Shared → Prop} (ho : s.heap.get? l = some o) (hc : o.cls = .type "tuple") (hd : o.data = .seq vs.toArray n) (hz : vs.length ≤ sizeLine)
    (hp : ∀ v ∈ vs, IsPair s.heap v (k v).1 (k v).2)
    (h : ∀ h1 : Heap, (∀ b o, s.heap.get? b = some o → h1.get? b = some o) → ∀ (h' : Heap) (out : List Value), Srtd (fun v u => lexB (k v) (k u)) out → Stb (fun v u => lexB (k v) (k u)) out vs → (∀ b o, h1.get? b = some o → h'.get? b = some o) →
      (∃ n, h'.get? h1.objs.size = some (seqObj "list" out.toArray n)) → Q (.ref h1.objs.size) { s with heap := h' }) :
    wpAny (model prog w) A (call (.builtin "sorted") [.ref l]) Q E s := by
  refine Calls.call_function_entry kind_sorted plain_sorted entry_sorted (args_sorted1 _) ?_
  unfold Builtin.«sorted»
  refine wpAny_bind (m := checkCount "sorted" 1 1 _) (wpAny_pure ?_)
  refine wpAny_bind (wpAny_collect_seq l (.inr rfl) ho hc hd (fun h1 k1 => ?_) (by rw [List.size_toArray]; exact hz))
  have el : vs.toArray.toList = vs := by simp
  rw [el]
  refine wpAny_bind (wpAny_newList ?_ hz)
  have hoL : (h1.push (seqObj "list" vs.toArray 0)).get? h1.objs.size = some (seqObj "list" vs.toArray 0) := Heap.get?_push_size _ rfl
  have keep : ∀ b o, h1.get? b = some o → b ≠ h1.objs.size ∧ (h1.push (seqObj "list" vs.toArray 0)).get? b = some o := fun b o q => ⟨Nat.ne_of_lt (Heap.lt_size q), Heap.get?_push_of_some _ q⟩
  show wpAny _ _ _ _ _ { s with heap := h1.push (seqObj "list" vs.toArray 0) }
  refine wpAny_bind (wpAny_holding (wpAny_call_entry slot_list_sort ⟨_, hoL, rfl⟩ entry_list_sort (list_sort_ord (swo_lex k) hoL hz (fun h2 => ?_) fun out hs hb => ⟨_, rfl, ?_⟩) (args_list_sort _)))
  · refine pairs_sortableO (s := { s with heap := h1.push (seqObj "list" vs.toArray 0) }) (by omega) (fun v hm => (hp v hm).keeps fun b o e _ => (keep b o (k1 b o e)).2) fun o e => ?_
    have e' : some o = some (seqObj "list" vs.toArray 0) := e.symm.trans hoL
    cases e'
    intro c
    exact absurd (Value.type.inj c) (by decide)
  · refine wpAny_pure ⟨_, rfl, h h1 k1 _ out hs hb (fun b o e => ?_) (PyProof.Rows.sortedHeap_at (vs := vs) (out := out.toArray) hoL)⟩
    rw [PyProof.Rows.sortedHeap_old (keep b o e).1 (Heap.lt_size (keep b o e).2)]
    exact (keep b o e).2
end
section
variable {X : Cx}
def rSortedTP (K : PySem.W.Frag) : List V → Hp → VK → Prop := fun vs H Q => ∃ (a : Addr) (xs : List V) (k : V → Int × Int), vs = [V.ref a] ∧ SqT K H a xs ∧ (∀ x ∈ xs, ∃ t, x = V.ref t ∧ H t = some (.tup [.int (k x).1, .int (k x).2])) ∧
  ∀ ys p, SrtO.Srtd (ltP k) ys → SrtO.Stb (ltP k) ys xs → H p = none → Q (.ref p) (upd H p (.lst ys))
theorem cr_sortedTP : CallR X (.builtin "sorted") (rSortedTP X.K) := by
  intro pins s σ H vs us Q I r h
  obtain ⟨a, xs, k, rfl, hs, hx, q⟩ := h
  obtain ⟨its, rv, hl, hz⟩ := I.tuple hs
  obtain ⟨u, rfl, ru⟩ := vals1 r
  obtain rfl : u = Value.ref a := ru
  obtain ⟨e1, e2⟩ := refs_back rv fun x m => by
    obtain ⟨t, e, _⟩ := hx x m
    exact ⟨t, e⟩
  obtain ⟨o, ho, hc, n, hd⟩ := hl
  refine sorted_tupP (k := fun u => k (backV u)) ho hc hd (by rw [← rv.length]; exact hz) (fun v hv => ?_) fun h1 k1 h' out s1 s2 kp hd' => ?_
  · obtain ⟨t, rfl⟩ := e2 v hv
    have hm : V.ref t ∈ xs := by rw [e1]; exact List.mem_map.mpr ⟨_, hv, rfl⟩
    obtain ⟨t', e, ht⟩ := hx _ hm
    cases e
    obtain ⟨_, its2, r2, o, ho, hc, n, hd⟩ := I.hok _ _ ht
    obtain ⟨u1, u2, rfl, ri, rj⟩ := vals2 r2
    obtain ⟨t1, rfl⟩ := ri
    obtain ⟨t2, rfl⟩ := rj
    exact ⟨t, o, t1, t2, n, rfl, ho, hc, hd⟩
  · have I2 : Inv X pins σ H { s with heap := h1 } := I.kept (t' := s.toks) k1
    have h3 : ∀ u ∈ out, ∃ a, u = Value.ref a := fun u hu => e2 u (s2.perm.mem_iff.mp hu)
    obtain ⟨n', hn'⟩ := hd'
    have hb : SrtO.Stb (ltP k) (out.map backV) xs := by
      rw [e1]
      exact SrtO.Stb.map (ltP_swo k) backV s2
    have hlen : (out.map backV).length ≤ sizeLine := by
      rw [hb.perm.length_eq]
      exact hz
    exact ⟨.ref h1.objs.size, upd H h1.objs.size (.lst (out.map backV)), I2.laid (t' := s.toks) kp (Nat.le_refl _) ⟨hlen, out, n', vals_back h3, hn'⟩, rfl, q _ _ (SrtO.srtd_map s1) hb (I2.hok.fresh (Nat.le_refl _))⟩
end

/-! ### enumerate(t), t a tuple -/
section
set_option maxHeartbeats 1000000 in
theorem meets_enumT (l : Addr) (items : Array Value) :
    Meets (Builtin.«enumerate.__new__» ⟨[.type "enumerate", .ref l], []⟩) (fun _ R s => s.heap.IsTuple l items ∧
      R (.ok (.ret (.ref (s.heap.push { cls := .type "tuple_iterator", data := .fields #[.ref l, .int 0 0] }).objs.size)))
        { s with heap := (s.heap.push { cls := .type "tuple_iterator", data := .fields #[.ref l, .int 0 0] }).push { cls := .type "enumerate", data := .fields #[.none, .bool false, .ref s.heap.objs.size, rawInt 0, .none, .none] } }) :=
  .of_wp fun prog w A R s hh => by
    obtain ⟨hp, g, d, tk, os⟩ := s
    obtain ⟨h1, h⟩ := hh
    have hsub := sub_enumerate
    have q1 : ∀ {A' : Around} {E : Value → Shared → Prop} {Q : Value → Shared → Prop}, Q (.ref hp.objs.size) ⟨hp.push { cls := .type "tuple_iterator", data := .fields #[.ref l, .int 0 0] }, g, d, tk, os⟩ → wpAny (model prog w) A' (pyIter (.ref l)) Q E ⟨hp, g, d, tk, os⟩ :=
      fun q => wpAny_pyIter_tuple h1 q
    wp_walk using q1
    refine wpAny_stack_any fun st => wpAny_pure ?_
    split
    · rename_i c _ _ _ _ _
      cases (c == Value.type "enumerate")
      · wp_walk using q1
        exact ⟨_, rfl, h⟩
      · wp_walk using q1
        exact ⟨_, rfl, h⟩
    · wp_walk using q1
      exact ⟨_, rfl, h⟩
variable {prog : Program} {w : World} {A : Around} {E : Value → Shared → Prop} {s : Shared}
theorem call_enumT {l : Addr} {items : Array Value} {Q : Value → Shared → Prop} (hL : s.heap.IsTuple l items)
    (h : ∀ h', IsEnum h' (s.heap.objs.size + 1) s.heap.objs.size 0 .none → h'.IsTupleIter s.heap.objs.size l 0 → (∀ b o, s.heap.get? b = some o → h'.get? b = some o) → Q (.ref (s.heap.objs.size + 1)) { s with heap := h' }) :
    wpAny (model prog w) A (call (.type "enumerate") [.ref l]) Q E s := by
  refine callType_new F.called_enumerate (by decide) (F.typeCall_enumerate_1 _) (F.newCall_enumerate_1 _) (fun obj => F.args_object_init_2 obj _) F.entry_enumerate_new (meets_enumT l items) ⟨hL, ?_⟩
  have hz : (s.heap.push { cls := .type "tuple_iterator", data := .fields #[.ref l, .int 0 0] }).objs.size = s.heap.objs.size + 1 := Heap.size_push ..
  show _ ∧ _
  rw [hz]
  have he : IsEnum ((s.heap.push { cls := .type "tuple_iterator", data := .fields #[.ref l, .int 0 0] }).push { cls := .type "enumerate", data := .fields #[.none, .bool false, .ref s.heap.objs.size, rawInt 0, .none, .none] }) (s.heap.objs.size + 1) s.heap.objs.size 0 .none := by
    have q := Heap.get?_push_size (s.heap.push { cls := .type "tuple_iterator", data := .fields #[.ref l, .int 0 0] }) (o := { cls := .type "enumerate", data := .fields #[.none, .bool false, .ref s.heap.objs.size, rawInt 0, .none, .none] }) rfl
    rw [hz] at q
    exact q
  exact ⟨⟨_, he, rfl⟩, h _ he ⟨_, Heap.get?_push_of_some _ (Heap.get?_push_size _ rfl), rfl, rfl⟩ fun b o x => Heap.get?_push_of_some _ (Heap.get?_push_of_some _ x)⟩
end
/-- the tuple at a, each item in a new pair -/
def IteT (K : PySem.W.Frag) (a : Addr) : It :=
  ⟨fun i H => ∃ (xs : List V) (x : V), SqT K H a xs ∧ xs[i]? = some x, fun i H v H' => ∃ T x, v = .ref T ∧ H T = none ∧ H' = upd H T (.tup [.int (i : Nat), x]) ∧ ∀ xs, SqT K H a xs → xs[i]? = some x, fun i H => ∃ xs : List V, SqT K H a xs ∧ xs.length = i⟩
theorem turn_enumT {P : Program} {w : World} {K : PySem.W.Frag} {elts : List Expr} {kk : Nat} {tpos : Pos} (a e it : Addr) (hne : e ≠ it) (hea : e ≠ a) (hia : a ≠ it) :
    Turn P w K (.Tuple elts kk tpos) (IteT K a) [e, it] e (fun i h => (∃ old, IsEnum h e it ((i : Nat) : Int) old) ∧ h.IsTupleIter it a i) where
  mem := by simp
  obj := fun i h st b hb => by
    obtain ⟨⟨old, he⟩, o, ho, hc, hd⟩ := st
    have e' : b = e ∨ b = it := by simpa using hb
    rcases e' with z | z
    · rw [z]; exact ⟨_, he, fun v q => nomatch q⟩
    · rw [z]; exact ⟨o, ho, fun v q => by rw [hd] at q; cases q⟩
  keep := fun i h h' st k => ⟨let ⟨old, he⟩ := st.1; ⟨old, k e (by simp) _ he⟩, st.2.at fun o q => k it (by simp) o q⟩
  item := by
    intro X hP hw hK hc i pins s σ H E I hf st hg
    subst hP hw hK
    obtain ⟨⟨old, he⟩, hit⟩ := st
    obtain ⟨xs, x, hq, hx⟩ := hg
    obtain ⟨its, rv, p, hz⟩ := I.tuple hq
    obtain ⟨u, hu, ru⟩ := rv.get hx
    have hlt : i < its.toArray.size := by
      have := (List.getElem?_eq_some_iff.mp hu).1
      simpa using this
    have hel : e < s.heap.objs.size := Heap.lt_size he
    have hil : it < s.heap.objs.size := by obtain ⟨_, q, _⟩ := hit; exact Heap.lt_size q
    have D : Draws X.prog X.w X.A.in1 it [it, a] its.toArray.size (fun i v => its.toArray[i]? = some v) (fun i h => h.IsTupleIter it a i ∧ h.IsTuple a its.toArray) := Draws.tuple (A := X.A.in1) (show X.A.in1.handled = none from I.ok.hd hc) it a hia its.toArray
    refine wpAny_pyNext_enum_itemC (c := (i : Int)) D he ⟨hit, p⟩ hlt hne (by simp [hne, hea]) fun x' h' tk hP' ho hst' hT hsz hk => ?_
    have ex : x' = u := by
      have h1 : its.toArray[i]? = some u := by simpa using hu
      rw [h1] at hP'
      exact (Option.some.inj hP').symm
    subst ex
    refine ⟨_, rfl, wpAny_letOwnedTupleGo_enum (s := { s with heap := h', toks := tk + 1 }) ho fun h'' he' sb => ?_⟩
    have hT2 : h''.get? s.heap.objs.size = some { cls := .type "tuple", data := .seq #[.int i tk, x'] } := (sb.2 _ (Nat.ne_of_gt hel)).trans hT
    have new : ObjOk X.prog X.w (upd H s.heap.objs.size (.tup [.int (i : Nat), x])) h'' s.heap.objs.size (.tup [.int (i : Nat), x]) :=
      ⟨by show 2 ≤ sizeLine; decide, [.int i tk, x'], .cons ⟨_, rfl⟩ (.cons ru .nil), ⟨_, hT2, rfl, _, rfl⟩⟩
    have I1 : Inv X pins σ (upd H s.heap.objs.size (.tup [.int (i : Nat), x])) { s with heap := h'', toks := tk + 1 } :=
      I.turnedNew (ch := [e, it]) (fun b o hb q => (sb.2 b (fun z => hb (by simp [z]))).trans (hk b o (fun z => hb (by simp [z])) (fun z => hb (by simp [z])) q)) hf (Nat.le_refl _) new
    refine ⟨.ref s.heap.objs.size, _, I1, rfl, ⟨_, x, rfl, I.hok.fresh (Nat.le_refl _), rfl, fun ys hy => by rw [I.tuple_inj hy hq]; exact hx⟩, ⟨⟨x', ?_⟩, hst'.1.at fun o q => (sb.2 it (Ne.symm hne)).trans q⟩, fun b hb => ?_⟩
    · have e1 : ((i + 1 : Nat) : Int) = (i : Int) + 1 := by omega
      rw [e1]; exact he'
    · have hb' : b < s.heap.objs.size := by
        have e' : b = e ∨ b = it := by simpa using hb
        rcases e' with z | z
        · rw [z]; exact hel
        · rw [z]; exact hil
      rw [upd_ne (Nat.ne_of_lt hb')]
      exact (hf b hb).1
  done := by
    intro X hP hw hK hc i pins s σ H E I hf st hg
    subst hP hw hK
    obtain ⟨⟨old, he⟩, hit⟩ := st
    obtain ⟨xs, hq, hx⟩ := hg
    obtain ⟨its, rv, p, hz⟩ := I.tuple hq
    obtain ⟨f0, f1, f2, f3, f4, f5⟩ := hf it (by simp)
    have hl : i = its.toArray.size := by
      have := rv.length
      simp
      omega
    subst hl
    have D : Draws X.prog X.w X.A.in1 it [it, a] its.toArray.size (fun i v => its.toArray[i]? = some v) (fun i h => h.IsTupleIter it a i ∧ h.IsTuple a its.toArray) := Draws.tuple (A := X.A.in1) (show X.A.in1.handled = none from I.ok.hd hc) it a hia its.toArray
    exact wpAny_pyNext_enum_endD D he ⟨hit, p⟩ fun h' eb => ⟨rfl, I.turned (t' := s.toks) (fun b o hb q => eb b o hb q) f0 f1 f3 f4 f5⟩
  self := fun A i s Q E st h => let ⟨⟨_, he⟩, _⟩ := st; wpAny_pyIter_enum he h
def iEnumT (K : PySem.W.Frag) (ta : TA) : TI := fun σ H R => ta σ H fun vs H1 => ∃ a xs, vs = [.ref a] ∧ SqT K H1 a xs ∧ R (IteT K a) H1
theorem pi_enumT {X : Cx} {e : Expr} {ta : TA} {p pos tpos : Pos} {elts : List Expr} {kk : Nat} (hg : Gl X "enumerate") (hm : X.mg "enumerate" = none) (ha : PA X [e] ta) (hs : starEach [e] X.env = [(false, eval e X.env)] := by rfl) :
    PI X (.Tuple elts kk tpos) (.Call (.Name "enumerate" p) [e] [] pos) (iEnumT X.K ta) := by
  refine ⟨fun pins s σ H R I h => ?_⟩
  refine Call_ (ld_blt I hg hm boot_enumerate (PyProof.Rows.callWith_type1 (thn (ha.run pos pins s σ H _ I h) fun us s1 ⟨vs, H1, I1, r1, q1⟩ => ?_) hs rfl))
  obtain ⟨a, xs, ex, hq, q⟩ := q1
  subst ex
  cases r1 with
  | cons r rr =>
    cases rr
    cases r
    obtain ⟨its, rv, p', hz⟩ := I1.tuple hq
    have hal : a < s1.heap.objs.size := p'.lt
    refine call_enumT p' fun h' he hit hk => wpAny_pyIter_enum he ?_
    have I2 : Inv X pins σ H1 { s1 with heap := h' } := I1.kept (t' := s1.toks) hk
    refine ⟨s1.heap.objs.size + 1, [s1.heap.objs.size + 1, s1.heap.objs.size], _, _, H1, rfl, I2, turn_enumT a (s1.heap.objs.size + 1) s1.heap.objs.size (Nat.succ_ne_self _) (Nat.ne_of_gt (Nat.lt_succ_of_lt hal)) (Nat.ne_of_lt hal), ⟨⟨.none, he⟩, hit⟩, fun b hb => ?_, q⟩
    have e' : b = s1.heap.objs.size + 1 ∨ b = s1.heap.objs.size := by simpa using hb
    have hle : s1.heap.objs.size ≤ b := by
      rcases e' with z | z
      · rw [z]; exact Nat.le_add_right _ _
      · rw [z]; exact Nat.le_refl _
    exact I1.fpOk hle (I1.hok.fresh hle)
theorem walk_enumT {K : PySem.W.Frag} {a : Addr} {xs : List V} : Walk (IteT K a) xs.length (fun H => SqT K H a xs) (YPair (fun i => some (.int (i : Nat))) (fun i => xs[i]?)) := by
  refine ⟨fun i _ hi q => ⟨xs, xs[i], q, by simp [hi]⟩, fun _ q => ⟨xs, q, rfl⟩, fun i H v H' _ q y => ?_⟩
  obtain ⟨T, x, h1, h2, h3, h4⟩ := y
  exact ⟨T, .int (i : Nat), x, h1, h2, h3, rfl, h4 xs q⟩
end AW

set_option maxRecDepth 100000
set_option maxHeartbeats 4000000
/-! The data of this program over the abstract heap, and comprehensions told by what they give. -/
namespace AW
open PySem PySem.Spec PyProof.Rows L2

/-! ### lists side by side -/
inductive A2 {α β : Type} (R : α → β → Prop) : List α → List β → Prop
  | nil : A2 R [] []
  | cons {a : α} {b : β} {as : List α} {bs : List β} (h : R a b) (t : A2 R as bs) : A2 R (a :: as) (b :: bs)
section
variable {α β : Type} {R S : α → β → Prop}
theorem A2.len {as : List α} {bs : List β} (h : A2 R as bs) : as.length = bs.length := by
  induction h with
  | nil => rfl
  | cons _ _ ih => rw [List.length_cons, List.length_cons, ih]
theorem A2.mono {as : List α} {bs : List β} (h : A2 R as bs) (f : ∀ a b, R a b → S a b) : A2 S as bs := by
  induction h with
  | nil => exact .nil
  | cons h _ ih => exact .cons (f _ _ h) ih
theorem A2.get {as : List α} {bs : List β} (h : A2 R as bs) : ∀ {i : Nat} {a : α}, as[i]? = some a → ∃ b, bs[i]? = some b ∧ R a b := by
  induction h with
  | nil => intro i a e; simp at e
  | cons h _ ih =>
    intro i a e
    cases i with
    | zero =>
      simp at e
      subst e
      exact ⟨_, rfl, h⟩
    | succ i => exact ih (i := i) (by simpa using e)
theorem A2.get2 {as : List α} {bs : List β} (h : A2 R as bs) : ∀ {i : Nat} {b : β}, bs[i]? = some b → ∃ a, as[i]? = some a ∧ R a b := by
  induction h with
  | nil => intro i a e; simp at e
  | cons h _ ih =>
    intro i b e
    cases i with
    | zero =>
      simp at e
      subst e
      exact ⟨_, rfl, h⟩
    | succ i => exact ih (i := i) (by simpa using e)
theorem A2.app {as as' : List α} {bs bs' : List β} (h : A2 R as bs) (h' : A2 R as' bs') : A2 R (as ++ as') (bs ++ bs') := by
  induction h with
  | nil => exact h'
  | cons h _ ih => exact .cons h ih
theorem A2.snoc {as : List α} {bs : List β} {a : α} {b : β} (h : A2 R as bs) (r : R a b) : A2 R (as ++ [a]) (bs ++ [b]) := h.app (.cons r .nil)
theorem A2.drop {as : List α} {bs : List β} (h : A2 R as bs) : ∀ n : Nat, A2 R (as.drop n) (bs.drop n) := by
  induction h with
  | nil => intro n; rw [List.drop_nil, List.drop_nil]; exact .nil
  | cons h t ih =>
    intro n
    cases n with
    | zero => exact .cons h t
    | succ n => exact ih n
/-- each value is f of its item -/
theorem A2.eqmap {f : α → β} {as : List α} {bs : List β} (h : A2 (fun a b => b = f a) as bs) : bs = as.map f := by
  induction h with
  | nil => rfl
  | cons h _ ih => rw [h, ih]; rfl
theorem A2.ofmap {f : α → β} (as : List α) (h : ∀ a ∈ as, R a (f a)) : A2 R as (as.map f) := by
  induction as with
  | nil => exact .nil
  | cons a r ih => exact .cons (h a (List.mem_cons_self ..)) (ih fun b hb => h b (List.mem_cons_of_mem _ hb))
theorem A2.mapL {γ : Type} {f : γ → α} {cs : List γ} {bs : List β} (h : A2 (fun c b => R (f c) b) cs bs) : A2 R (cs.map f) bs := by
  induction h with
  | nil => exact .nil
  | cons h _ ih => exact .cons h ih
theorem A2.mem2 {as : List α} {bs : List β} (h : A2 R as bs) {b : β} (hb : b ∈ bs) : ∃ a ∈ as, R a b := by
  obtain ⟨i, e⟩ := List.mem_iff_getElem?.mp hb
  obtain ⟨a, e2, r⟩ := h.get2 e
  exact ⟨a, List.mem_of_getElem? e2, r⟩
theorem A2.mem1 {as : List α} {bs : List β} (h : A2 R as bs) {a : α} (ha : a ∈ as) : ∃ b ∈ bs, R a b := by
  obtain ⟨i, e⟩ := List.mem_iff_getElem?.mp ha
  obtain ⟨b, e2, r⟩ := h.get e
  exact ⟨b, List.mem_of_getElem? e2, r⟩
theorem A2.take {as : List α} {bs : List β} (h : A2 R as bs) : ∀ n : Nat, A2 R (as.take n) (bs.take n) := by
  induction h with
  | nil => intro n; rw [List.take_nil, List.take_nil]; exact .nil
  | cons h t ih =>
    intro n
    cases n with
    | zero => exact .nil
    | succ n => exact .cons h (ih n)
end

/-! ### heaps -/
abbrev nv (n : Nat) : V := .int (n : Int)
theorem same_new {H : Hp} {p : Addr} {o : HO} (h : H p = none) : Same H (upd H p o) := fun b u e => by
  rw [upd_ne (ne_of_none e h)]
  exact e
/-- an object that H does not know may change -/
theorem same_mut {H H' : Hp} {p : Addr} {o : HO} (e : Same H H') (h : H p = none) : Same H (upd H' p o) := fun a u ha => by
  rw [upd_ne (ne_of_none ha h)]
  exact e a u ha
/-- the heap without D -/
def ers (D : Addr) (H : Hp) : Hp := fun b => if b = D then none else H b
theorem ers_ne {D b : Addr} {H : Hp} (h : b ≠ D) : ers D H b = H b := if_neg h
theorem ers_same {D : Addr} {H : Hp} : Same (ers D H) H := fun b o e => by
  unfold ers at e
  split at e
  · cases e
  · exact e
theorem ers_mono {D : Addr} {H H' : Hp} (h : Same H H') : Same (ers D H) (ers D H') := fun b o e => by
  unfold ers at e ⊢
  split at e
  · cases e
  · rename_i hb
    rw [if_neg hb]
    exact h b o e
theorem ers_upd {D : Addr} {H : Hp} {o : HO} : Same (ers D H) (ers D (upd H D o)) := fun b u e => by
  unfold ers at e ⊢
  split at e
  · cases e
  · rename_i hb
    rw [if_neg hb, upd_ne hb]
    exact e
theorem sq_of {K : PySem.W.Frag} {H : Hp} {a : Addr} {xs : List V} (h : H a = some (.lst xs)) : SqL K H a xs := .inl (.inl h)
theorem st_of {K : PySem.W.Frag} {H : Hp} {a : Addr} {xs : List V} (h : H a = some (.tup xs)) : SqT K H a xs := .inl (.inl h)
theorem sz_of {n : Nat} (h : n ≤ 1000000) : n ≤ sizeLine := Nat.le_trans h (by decide)
theorem sz_lt {n : Nat} (h : n < 1000000) : n < sizeLine := Nat.lt_of_lt_of_le h (by decide)

/-! ### what stands at an address -/
/-- a list of ints -/
def NL (H : Hp) (a : Addr) (ns : List Nat) : Prop := H a = some (.lst (ns.map nv))
/-- a pair of ints -/
def IsP (H : Hp) (p : Nat × Nat) (v : V) : Prop := ∃ t, v = .ref t ∧ H t = some (.tup [nv p.1, nv p.2])
/-- a tuple, a list of pairs -/
def PT (H : Hp) (a : Addr) (ps : List (Nat × Nat)) : Prop := ∃ vs, H a = some (.tup vs) ∧ A2 (IsP H) ps vs
def PL (H : Hp) (a : Addr) (ps : List (Nat × Nat)) : Prop := ∃ vs, H a = some (.lst vs) ∧ A2 (IsP H) ps vs
/-- a value that is a list of ints; a list of such -/
def IsN (H : Hp) (ns : List Nat) (v : V) : Prop := ∃ l, v = .ref l ∧ NL H l ns
def LL (H : Hp) (a : Addr) (nss : List (List Nat)) : Prop := ∃ vs, H a = some (.lst vs) ∧ A2 (IsN H) nss vs
section
variable {H H' : Hp} {a : Addr}
theorem NL.mono {ns : List Nat} (e : Same H H') (h : NL H a ns) : NL H' a ns := e a _ h
theorem IsP.mono {p : Nat × Nat} {v : V} (e : Same H H') (h : IsP H p v) : IsP H' p v := by
  obtain ⟨t, r, h⟩ := h
  exact ⟨t, r, e t _ h⟩
theorem PT.mono {ps : List (Nat × Nat)} (e : Same H H') (h : PT H a ps) : PT H' a ps := by
  obtain ⟨vs, h, r⟩ := h
  exact ⟨vs, e a _ h, r.mono fun _ _ => IsP.mono e⟩
theorem PL.mono {ps : List (Nat × Nat)} (e : Same H H') (h : PL H a ps) : PL H' a ps := by
  obtain ⟨vs, h, r⟩ := h
  exact ⟨vs, e a _ h, r.mono fun _ _ => IsP.mono e⟩
theorem IsN.mono {ns : List Nat} {v : V} (e : Same H H') (h : IsN H ns v) : IsN H' ns v := by
  obtain ⟨t, r, h⟩ := h
  exact ⟨t, r, h.mono e⟩
theorem LL.mono {nss : List (List Nat)} (e : Same H H') (h : LL H a nss) : LL H' a nss := by
  obtain ⟨vs, h, r⟩ := h
  exact ⟨vs, e a _ h, r.mono fun _ _ => IsN.mono e⟩
/-- a pair is no list -/
theorem IsP.ers {p : Nat × Nat} {v : V} {D : Addr} {xs : List V} (hD : H D = some (.lst xs)) (h : IsP H p v) : IsP (ers D H) p v := by
  obtain ⟨t, r, h⟩ := h
  exact ⟨t, r, by rw [ers_ne (ne_of h hD (by intro z; cases z))]; exact h⟩
end

/-! ### the arrows that lead from a room, to a room -/
def outsOf (ps : List (Nat × Nat)) (r : Nat) : List Nat := (List.range ps.length).filter fun i => decide ((ps.getD i (0, 0)).1 = r)
def insOf (ps : List (Nat × Nat)) (r : Nat) : List Nat := (List.range ps.length).filter fun i => decide ((ps.getD i (0, 0)).2 = r)

/-! ### comprehensions: f tells which turns give, R what a turn gives -/
section
variable {J : It} {n : Nat} {G : Hp → Prop} {Y : Nat → Hp → V → Hp → Prop}
theorem range_filter_succ (i : Nat) (f : Nat → Bool) : (List.range (i + 1)).filter f = (List.range i).filter f ++ if f i = true then [i] else [] := by
  rw [List.range_succ, List.filter_append]
  congr 1
  rw [List.filter_cons]
  cases f i <;> rfl
theorem lc_gen (w : Walk J n G Y) {g : TG} {tt : TT} {te : TE} {vs : List Nat} {σ : L2.St} {H1 : Hp} {D : Addr} {Qd : Hp → Prop} (hD : H1 D = none) (f : Nat → Bool) (R : Nat → V → Hp → Prop) (hm : ∀ i y H H', Same H H' → R i y H → R i y H') (hG : ∀ H', Same H1 H' → G H') (hn : n ≤ 100000)
    (hs : ∀ i x H' H'' ys, H' D = some (.lst ys) → i < n → Same H1 H' → Y i H' x H'' → ∀ (Kn : Hp → Prop) (Ky : V → Hp → Prop), (f i = false → ∀ H3, Same H' H3 → Kn H3) → (f i = true → ∀ y H3, Same H' H3 → R i y (ers D H3) → Ky y H3) →
      g x (wipe σ vs) H'' fun σ2 H2 => wipe σ2 vs = wipe σ vs ∧ tt σ2 H2 fun b H3 => if b = true then te σ2 H3 Ky else Kn H3)
    (hd : ∀ H' ys, Same H1 H' → H' D = some (.lst ys) → A2 (fun i y => R i y H') ((List.range n).filter f) ys → Qd H') :
    ∃ W : Nat → Nat → Hp → Prop, (∃ m, W 0 m (upd H1 D (.lst []))) ∧ ∀ i m H, W i m H →
      (J.stop i H ∧ Qd H) ∨ (J.go i H ∧ ∃ Nx : Hp → Prop, (∀ H', Nx H' → ∃ m', m' < m ∧ W (i + 1) m' H') ∧ ∀ x H', J.yld i H x H' → g x (wipe σ vs) H' fun σ2 H2 => wipe σ2 vs = wipe σ vs ∧ tt σ2 H2 fun b H3 =>
        if b = true then te σ2 H3 fun y H4 => ∃ acc, H4 D = some (.lst acc) ∧ acc.length < sizeLine ∧ Nx (upd H4 D (.lst (acc ++ [y]))) else Nx H3) := by
  refine lc_it w (fun i H => Same H1 H ∧ ∃ ys, H D = some (.lst ys) ∧ ys.length ≤ i ∧ A2 (fun i y => R i y (ers D H)) ((List.range i).filter f) ys) ⟨same_new hD, [], upd_same, Nat.le_refl _, .nil⟩ (fun i H _ p => hG H p.1) ?_ ?_
  · rintro i x H H' hi ⟨sm, ys, hy, hl, ha⟩ hY
    refine hs i x H H' ys hy hi sm hY _ _ (fun hf H3 s3 => ⟨sm.trans s3, ys, s3 D _ hy, Nat.le_succ_of_le hl, ?_⟩) (fun hf y H3 s3 r => ⟨ys, s3 D _ hy, sz_lt (by omega), same_mut (sm.trans s3) hD, ys ++ [y], upd_same, ?_, ?_⟩)
    · rw [range_filter_succ, hf]
      show A2 _ (_ ++ []) _
      rw [List.append_nil]
      exact ha.mono fun i y => hm i y _ _ (ers_mono s3)
    · rw [List.length_append]
      show ys.length + 1 ≤ i + 1
      omega
    · rw [range_filter_succ, hf]
      exact (ha.mono fun i y z => hm i y _ _ ers_upd (hm i y _ _ (ers_mono s3) z)).snoc (hm i y _ _ ers_upd r)
  · rintro H ⟨sm, ys, hy, _, ha⟩
    exact hd H ys sm hy (ha.mono fun i y => hm i y _ _ ers_same)
/-- no test -/
theorem lc_all (w : Walk J n G Y) {g : TG} {te : TE} {vs : List Nat} {σ : L2.St} {H1 : Hp} {D : Addr} {Qd : Hp → Prop} (hD : H1 D = none) (R : Nat → V → Hp → Prop) (hm : ∀ i y H H', Same H H' → R i y H → R i y H') (hG : ∀ H', Same H1 H' → G H') (hn : n ≤ 100000)
    (hgm : ∀ x σ H (P P' : L2.St → Hp → Prop), (∀ a b, P a b → P' a b) → g x σ H P → g x σ H P')
    (hs : ∀ i x H' H'' ys, H' D = some (.lst ys) → i < n → Same H1 H' → Y i H' x H'' → ∀ (Ky : V → Hp → Prop), (∀ y H3, Same H' H3 → R i y (ers D H3) → Ky y H3) →
      g x (wipe σ vs) H'' fun σ2 H2 => wipe σ2 vs = wipe σ vs ∧ te σ2 H2 Ky)
    (hd : ∀ H' ys, Same H1 H' → H' D = some (.lst ys) → A2 (fun i y => R i y H') (List.range n) ys → Qd H') :
    ∃ W : Nat → Nat → Hp → Prop, (∃ m, W 0 m (upd H1 D (.lst []))) ∧ ∀ i m H, W i m H →
      (J.stop i H ∧ Qd H) ∨ (J.go i H ∧ ∃ Nx : Hp → Prop, (∀ H', Nx H' → ∃ m', m' < m ∧ W (i + 1) m' H') ∧ ∀ x H', J.yld i H x H' → g x (wipe σ vs) H' fun σ2 H2 => wipe σ2 vs = wipe σ vs ∧ tYes σ2 H2 fun b H3 =>
        if b = true then te σ2 H3 fun y H4 => ∃ acc, H4 D = some (.lst acc) ∧ acc.length < sizeLine ∧ Nx (upd H4 D (.lst (acc ++ [y]))) else Nx H3) := by
  refine lc_gen w hD (fun _ => true) R hm hG hn (fun i x H' H'' ys hy hi sm hY Kn Ky _ hk => ?_) fun H' ys sm hy ha => hd H' ys sm hy ?_
  · exact hgm _ _ _ _ _ (fun a b z => ⟨z.1, iteT (B := Kn b) z.2⟩) (hs i x H' H'' ys hy hi sm hY Ky (hk rfl))
  · have e : (List.range n).filter (fun _ => true) = List.range n := List.filter_eq_self.mpr fun _ _ => rfl
    rw [e] at ha
    exact ha
theorem gName_mono {j : Nat} : ∀ x σ H (P P' : L2.St → Hp → Prop), (∀ a b, P a b → P' a b) → gName j x σ H P → gName j x σ H P' := fun _ _ _ _ _ h z => h _ _ z
end
end AW

set_option maxRecDepth 100000
set_option maxHeartbeats 4000000
/-! The text by places; a def of the text that may be called; what the top leaves. -/
namespace AW
open PySem PySem.Spec PyProof.Rows L2
def top (i : Nat) : Stmt := PySem.Challenge.pw_aheadfold_k25_whole_whatever_the_order_o.main.body.getD i (.Pass ⟨0, 0, 0, 0⟩)
def met (i : Nat) : Stmt := inClass (top 18) i
abbrev FnP (K : PySem.W.Frag) (x q : Str) (st : Stmt) (f : Addr) (fd : FuncData) : Prop := FunD K x q (defArgs st) (defBody st) (defScope st) [] [] f fd
/-- the names of the module and the built-ins that the defs use -/
structure Bn (mg : Str → Option Value) : Prop where
  isi : mg "isinstance" = none
  int : mg "int" = none
  bool : mg "bool" = none
  list : mg "list" = none
  tuple : mg "tuple" = none
  len : mg "len" = none
  all : mg "all" = none
  range : mg "range" = none
  enumerate : mg "enumerate" = none
  sum : mg "sum" = none
  sorted : mg "sorted" = none
  zip : mg "zip" = none
  str : mg "str" = none
  rooms : ∃ t, mg "MOST_ROOMS" = some (.int 100 t)
  arrows : ∃ t, mg "MOST_ARROWS" = some (.int 400 t)
  length : ∃ t, mg "MOST_LENGTH" = some (.int 60 t)
/-- the class Web -/
structure Wc (K : PySem.W.Frag) (C : Addr) : Prop where
  cl : Cls K C
  nS : NoAttr K C "size"
  nP : NoAttr K C "pairs"
  nL : NoAttr K C "leaving"
  nC : NoAttr K C "coming"
section
variable {P : Program} {w : World} {K : PySem.W.Frag} {mg : Str → Option Value} {base : Heap}
theorem cal_mk {x : Str} {st : Stmt} {f : Addr} {fd : FuncData} {N ps : List Str} {k : Nat} {sp : Sp} (F : FnP K x x st f fd) (hm : mg x = some (.ref f))
    (hb : ∀ (kV doc pm : Value) (an : Option Addr) (cdv ct : Value) (us : List Value), us.length = ps.length → bindArgs (PySem.W.fnOf x x (defArgs st) (defBody st) (defScope st) .none kV doc pm an cdv ct) ⟨us, []⟩ = pure (ps.zip us))
    (S : FnScope N ps (defScope st)) (len : ∀ vs H Q E, sp vs H Q E → vs.length = ps.length)
    (hbody : ∀ (cdv : Value) (A : Around) (outer : List Env) (s : Shared) (H : Hp) (vs : List V) (Q : VK) (E : XK), Room k (A.deeper (envOfC x (defScope st) s.heap.objs.size f cdv)) → sp vs H Q E →
      ∃ t, PSs (cxOf CX0 P w K mg base N x (defScope st) f cdv A outer s H E).nox (defBody st) t ∧ t { nx := fun _ H' => Q .non H', rt := Q } (start N vs) H) : C8.Cal P w K mg base (k + 1) x sp [] :=
  ⟨f, fd, ps, [], F.ok S len fun cdv A outer s H vs Q E hr h => let ⟨t, h1, h2⟩ := hbody cdv A outer s H vs Q E hr h; ⟨t, PSs.nox h1, h2⟩, hm, F.kp, F.bindsN hb, .nil⟩
theorem met_mk {m q : Str} {C : Addr} {st : Stmt} {f : Addr} {fd : FuncData} {N ps : List Str} {k : Nat} {sp : Sp} (c : Cls K C) (me : Meth K C m f) (F : FnP K m q st f fd)
    (hb : ∀ (kV doc pm : Value) (an : Option Addr) (cdv ct : Value) (us : List Value), us.length = ps.length → bindArgs (PySem.W.fnOf m q (defArgs st) (defBody st) (defScope st) .none kV doc pm an cdv ct) ⟨us, []⟩ = pure (ps.zip us))
    (S : FnScope N ps (defScope st)) (len : ∀ vs H Q E, sp vs H Q E → vs.length = ps.length)
    (hbody : ∀ (cdv : Value) (A : Around) (outer : List Env) (s : Shared) (H : Hp) (vs : List V) (Q : VK) (E : XK), Room k (A.deeper (envOfC q (defScope st) s.heap.objs.size f cdv)) → sp vs H Q E →
      ∃ t, PSs (cxOf CX0 P w K mg base N q (defScope st) f cdv A outer s H E).nox (defBody st) t ∧ t { nx := fun _ H' => Q .non H', rt := Q } (start N vs) H) : C8.Met P w K mg base (k + 1) C m sp [] :=
  ⟨f, fd, ps, [], c, me, F.ok S len fun cdv A outer s H vs Q E hr h => let ⟨t, h1, h2⟩ := hbody cdv A outer s H vs Q E hr h; ⟨t, PSs.nox h1, h2⟩, F.bindsN hb, .nil⟩
theorem mak_mk {x q : Str} {C : Addr} {st : Stmt} {f : Addr} {fd : FuncData} {N ps : List Str} {k : Nat} {sp : Sp} (M : Mk K C f) (hm : mg x = some (.ref C)) (F : FnP K "__init__" q st f fd)
    (hb : ∀ (kV doc pm : Value) (an : Option Addr) (cdv ct : Value) (us : List Value), us.length = ps.length → bindArgs (PySem.W.fnOf "__init__" q (defArgs st) (defBody st) (defScope st) .none kV doc pm an cdv ct) ⟨us, []⟩ = pure (ps.zip us))
    (S : FnScope N ps (defScope st)) (len : ∀ vs H Q E, sp vs H Q E → vs.length = ps.length)
    (hbody : ∀ (cdv : Value) (A : Around) (outer : List Env) (s : Shared) (H : Hp) (vs : List V) (Q : VK) (E : XK), Room k (A.deeper (envOfC q (defScope st) s.heap.objs.size f cdv)) → sp vs H Q E →
      ∃ t, PSs (cxOf CX0 P w K mg base N q (defScope st) f cdv A outer s H E).nox (defBody st) t ∧ t { nx := fun _ H' => Q .non H', rt := Q } (start N vs) H) : C8.Mak P w K mg base (k + 1) x C sp [] :=
  ⟨f, fd, ps, [], M, F.ok S len fun cdv A outer s H vs Q E hr h => let ⟨t, h1, h2⟩ := hbody cdv A outer s H vs Q E hr h; ⟨t, PSs.nox h1, h2⟩, hm, F.bindsN hb, .nil⟩
end
section
variable {X : Cx}
/-- isinstance of an int, a list, a tuple, a bool -/
theorem kit_of_ty {K : PySem.W.Frag} {a b : String} {r : Bool} (h : kitB a b = some r) : PySem.W.kitOne K (.type a) (.type b) = some r := h
end
/-! ### promises -/
def spWithin : Sp := fun vs H Q _ => ∃ t lo hi : Int, vs = [.int t, .int lo, .int hi] ∧ Q (.bl (decide (lo ≤ t) && decide (t ≤ hi))) H
def spListed : Sp := fun vs H Q _ => ∃ (t : Addr) (xs : List V), vs = [.ref t] ∧ H t = some (.tup xs) ∧ ∀ H', Same H H' → Q (.bl true) H'
def spPair : Sp := fun vs H Q _ => ∃ (v : V) (p : Nat × Nat) (n : Nat), vs = [v, nv n] ∧ IsP H p v ∧ p.1 < n ∧ p.2 < n ∧ ∀ H', Same H H' → Q (.bl true) H'
end AW

set_option maxRecDepth 100000
set_option maxHeartbeats 4000000
/-! A web over the abstract heap; the promises of its methods. -/
namespace AW
open PySem PySem.Spec PyProof.Rows L2
def flds (n : Nat) (tp ll lc : Addr) : List (Str × V) := [("size", nv n), ("pairs", .ref tp), ("leaving", .ref ll), ("coming", .ref lc)]
theorem k_ps : (("pairs" : Str) == ("size" : Str)) = false := by decide +kernel
theorem k_ls : (("leaving" : Str) == ("size" : Str)) = false := by decide +kernel
theorem k_lp : (("leaving" : Str) == ("pairs" : Str)) = false := by decide +kernel
theorem k_cs : (("coming" : Str) == ("size" : Str)) = false := by decide +kernel
theorem k_cp : (("coming" : Str) == ("pairs" : Str)) = false := by decide +kernel
theorem k_cl : (("coming" : Str) == ("leaving" : Str)) = false := by decide +kernel
theorem flds_size (n : Nat) (tp ll lc : Addr) : (flds n tp ll lc).lookup ("size" : Str) = some (nv n) := by
  simp [flds, List.lookup]
theorem flds_pairs (n : Nat) (tp ll lc : Addr) : (flds n tp ll lc).lookup ("pairs" : Str) = some (.ref tp) := by
  simp [flds, List.lookup, k_ps]
theorem flds_leaving (n : Nat) (tp ll lc : Addr) : (flds n tp ll lc).lookup ("leaving" : Str) = some (.ref ll) := by
  simp [flds, List.lookup, k_ls, k_lp]
theorem flds_coming (n : Nat) (tp ll lc : Addr) : (flds n tp ll lc).lookup ("coming" : Str) = some (.ref lc) := by
  simp [flds, List.lookup, k_cs, k_cp, k_cl]
theorem flds_no (n : Nat) (tp ll lc : Addr) {m : Str} (h1 : (m == ("size" : Str)) = false) (h2 : (m == ("pairs" : Str)) = false) (h3 : (m == ("leaving" : Str)) = false) (h4 : (m == ("coming" : Str)) = false) : (flds n tp ll lc).lookup m = none := by
  simp only [flds, List.lookup, h1, h2, h3, h4]
/-- an instance of Web at x: n rooms, the arrows ps -/
structure WebAt (C : Addr) (H : Hp) (x : Addr) (n : Nat) (ps : List (Nat × Nat)) : Prop where
  ex : ∃ dx tp ll lc, H x = some (.ins C dx (flds n tp ll lc)) ∧ PT H tp ps ∧ LL H ll ((List.range n).map (outsOf ps)) ∧ LL H lc ((List.range n).map (insOf ps))
  good : AF.Good n ps
  hn : n ≤ 100
  hl : ps.length < 400
theorem WebAt.mono {C x : Addr} {H H' : Hp} {n : Nat} {ps : List (Nat × Nat)} (e : Same H H') (h : WebAt C H x n ps) : WebAt C H' x n ps := by
  obtain ⟨dx, tp, ll, lc, h1, h2, h3, h4⟩ := h.ex
  exact ⟨⟨dx, tp, ll, lc, e x _ h1, h2.mono e, h3.mono e, h4.mono e⟩, h.good, h.hn, h.hl⟩
theorem PT.sq {K : PySem.W.Frag} {H : Hp} {a : Addr} {ps : List (Nat × Nat)} (h : PT H a ps) : ∃ vs, SqT K H a vs ∧ vs.length = ps.length ∧ A2 (IsP H) ps vs := by
  obtain ⟨vs, h, r⟩ := h
  exact ⟨vs, st_of h, r.len.symm, r⟩
theorem getD_of {ps : List (Nat × Nat)} {i : Nat} {p : Nat × Nat} (h : ps[i]? = some p) : ps.getD i (0, 0) = p := by
  rw [List.getD_eq_getElem?_getD, h]
  rfl
theorem get_of {ps : List (Nat × Nat)} {i : Nat} (h : i < ps.length) : ps[i]? = some (ps.getD i (0, 0)) := by
  rw [List.getD_eq_getElem?_getD, List.getElem?_eq_getElem h]
  rfl
/-- the i-th arrow in the heap -/
theorem arrow_at {H : Hp} {ps : List (Nat × Nat)} {vs : List V} {i : Nat} (r : A2 (IsP H) ps vs) (h : i < ps.length) : ∃ t, vs[i]? = some (.ref t) ∧ H t = some (.tup [nv (ps.getD i (0, 0)).1, nv (ps.getD i (0, 0)).2]) := by
  obtain ⟨v, e, t, rfl, ht⟩ := r.get (get_of h)
  exact ⟨t, e, ht⟩
/-- the list of a room's arrows -/
theorem row_at {H : Hp} {n r : Nat} {f : Nat → List Nat} {vs : List V} (h : A2 (IsN H) ((List.range n).map f) vs) (hr : r < n) : ∃ l, vs[r]? = some (.ref l) ∧ NL H l (f r) := by
  have e : ((List.range n).map f)[r]? = some (f r) := by
    rw [List.getElem?_map, List.getElem?_range hr]
    rfl
  obtain ⟨v, e2, l, rfl, hl⟩ := h.get e
  exact ⟨l, e2, hl⟩
/-! ### promises -/
def spHas (C : Addr) : Sp := fun vs H Q _ => ∃ (x : Addr) (n i : Nat) (ps : List (Nat × Nat)), vs = [.ref x, nv i] ∧ WebAt C H x n ps ∧ i < ps.length ∧ Q (.bl true) H
def spNeed (C : Addr) : Sp := fun vs H Q _ => ∃ (x : Addr) (n r : Nat) (ps : List (Nat × Nat)), vs = [.ref x, nv r] ∧ WebAt C H x n ps ∧ r < n ∧ Q .non H
def spBegin (C : Addr) : Sp := fun vs H Q _ => ∃ (x : Addr) (n i : Nat) (ps : List (Nat × Nat)), vs = [.ref x, nv i] ∧ WebAt C H x n ps ∧ i < ps.length ∧ Q (nv (ps.getD i (0, 0)).1) H
def spEnd (C : Addr) : Sp := fun vs H Q _ => ∃ (x : Addr) (n i : Nat) (ps : List (Nat × Nat)), vs = [.ref x, nv i] ∧ WebAt C H x n ps ∧ i < ps.length ∧ Q (nv (ps.getD i (0, 0)).2) H
def spOuts (C : Addr) : Sp := fun vs H Q _ => ∃ (x : Addr) (n r : Nat) (ps : List (Nat × Nat)), vs = [.ref x, nv r] ∧ WebAt C H x n ps ∧ r < n ∧ ∀ p H', H p = none → Same H H' → NL H' p (outsOf ps r) → Q (.ref p) H'
def spIns (C : Addr) : Sp := fun vs H Q _ => ∃ (x : Addr) (n r : Nat) (ps : List (Nat × Nat)), vs = [.ref x, nv r] ∧ WebAt C H x n ps ∧ r < n ∧ ∀ p H', H p = none → Same H H' → NL H' p (insOf ps r) → Q (.ref p) H'
def spRooms (C : Addr) : Sp := fun vs H Q _ => ∃ (x : Addr) (n : Nat) (ps : List (Nat × Nat)), vs = [.ref x] ∧ WebAt C H x n ps ∧ Q (nv n) H
def spLen (C : Addr) : Sp := fun vs H Q _ => ∃ (x : Addr) (n : Nat) (ps : List (Nat × Nat)), vs = [.ref x] ∧ WebAt C H x n ps ∧ Q (nv ps.length) H
def spArrows (C : Addr) : Sp := fun vs H Q _ => ∃ (x : Addr) (n : Nat) (ps : List (Nat × Nat)), vs = [.ref x] ∧ WebAt C H x n ps ∧ ∀ p H', H p = none → Same H H' → PL H' p ps → Q (.ref p) H'
end AW

set_option maxRecDepth 100000
set_option maxHeartbeats 4000000
/-! The same data as PyData, for ==, != and in. -/
namespace AW
open PySem PySem.Spec PyProof.Rows L2
def dN (ns : List Nat) : PyData := .list (ns.map fun n : Nat => PyData.int (n : Int))
def dP (p : Nat × Nat) : PyData := .tuple [.int (p.1 : Int), .int (p.2 : Int)]
def dPs (ps : List (Nat × Nat)) : PyData := .list (ps.map dP)
def dL (nss : List (List Nat)) : PyData := .list (nss.map dN)
section
variable {K : PySem.W.Frag} {H : Hp}
theorem dp_ints (ns : List Nat) : DpAll K H (ns.map nv) (ns.map fun n : Nat => PyData.int (n : Int)) := by
  induction ns with
  | nil => exact .nil
  | cons n r ih => exact .cons (.int _) ih
theorem dp_N {l : Addr} {ns : List Nat} (h : NL H l ns) : Dp K H (.ref l) (dN ns) := .lst (sq_of h) (dp_ints ns)
theorem dp_P {v : V} {p : Nat × Nat} (h : IsP H p v) : Dp K H v (dP p) := by
  obtain ⟨t, rfl, h⟩ := h
  exact .tup (st_of h) (.cons (.int _) (.cons (.int _) .nil))
theorem dp_all {α : Type} {R : α → V → Prop} {f : α → PyData} (hf : ∀ a v, R a v → Dp K H v (f a)) {as : List α} {vs : List V} (h : A2 R as vs) : DpAll K H vs (as.map f) := by
  induction h with
  | nil => exact .nil
  | cons h _ ih => exact .cons (hf _ _ h) ih
theorem dp_Ps {a : Addr} {ps : List (Nat × Nat)} (h : PL H a ps) : Dp K H (.ref a) (dPs ps) := by
  obtain ⟨vs, h, r⟩ := h
  exact .lst (sq_of h) (dp_all (fun _ _ z => dp_P z) r)
theorem dp_L {a : Addr} {nss : List (List Nat)} (h : LL H a nss) : Dp K H (.ref a) (dL nss) := by
  obtain ⟨vs, h, r⟩ := h
  exact .lst (sq_of h) (dp_all (fun ns v z => by
    obtain ⟨l, rfl, hl⟩ := z
    exact dp_N hl) r)
theorem dp_nil {a : Addr} (h : H a = some (.lst [])) : Dp K H (.ref a) (.list []) := .lst (sq_of h) .nil
end
/-! ### forms that == takes -/
theorem lay_all (xs : List PyData) (h : ∀ x ∈ xs, x.canLay0 = true) : PyData.canLayAll0 xs = true := by
  induction xs with
  | nil => simp only [PyData.canLayAll0]
  | cons x r ih => simp only [PyData.canLayAll0, h x (List.mem_cons_self ..), ih fun y hy => h y (List.mem_cons_of_mem _ hy), Bool.and_self]
theorem dep_all (xs : List PyData) (k : Nat) (h : ∀ x ∈ xs, x.depth ≤ k) : PyData.depthAll xs ≤ k := by
  induction xs with
  | nil => simp only [PyData.depthAll]; exact Nat.zero_le _
  | cons x r ih =>
    simp only [PyData.depthAll]
    exact Nat.max_le.mpr ⟨h x (List.mem_cons_self ..), ih fun y hy => h y (List.mem_cons_of_mem _ hy)⟩
theorem sh_of {d : PyData} (h1 : d.canLay0 = true) (h2 : d.depth ≤ 64) : SeqAt.shaped d = true := by
  unfold SeqAt.shaped
  rw [h1, decide_eq_true h2]
  rfl
theorem lay_N (ns : List Nat) : (dN ns).canLay0 = true := by
  unfold dN
  simp only [PyData.canLay0]
  exact lay_all _ fun x hx => by
    obtain ⟨n, _, rfl⟩ := List.mem_map.mp hx
    simp only [PyData.canLay0]
theorem dep_N (ns : List Nat) : (dN ns).depth ≤ 1 := by
  unfold dN
  simp only [PyData.depth]
  exact Nat.succ_le_succ (dep_all _ 0 fun x hx => by
    obtain ⟨n, _, rfl⟩ := List.mem_map.mp hx
    simp only [PyData.depth]
    exact Nat.le_refl _)
theorem sh_N (ns : List Nat) : SeqAt.shaped (dN ns) = true := sh_of (lay_N ns) (Nat.le_trans (dep_N ns) (by decide))
theorem sh_L (nss : List (List Nat)) : SeqAt.shaped (dL nss) = true := by
  refine sh_of ?_ ?_
  · unfold dL
    simp only [PyData.canLay0]
    exact lay_all _ fun x hx => by
      obtain ⟨n, _, rfl⟩ := List.mem_map.mp hx
      exact lay_N n
  · unfold dL
    simp only [PyData.depth]
    have h : PyData.depthAll (nss.map dN) ≤ 1 := dep_all _ 1 fun x hx => by
      obtain ⟨n, _, rfl⟩ := List.mem_map.mp hx
      exact dep_N n
    omega
theorem lay_P (p : Nat × Nat) : (dP p).canLay0 = true := by
  unfold dP
  simp only [PyData.canLay0, PyData.canLayAll0, Bool.and_self]
theorem dep_P (p : Nat × Nat) : (dP p).depth ≤ 1 := by
  unfold dP
  simp only [PyData.depth, PyData.depthAll]
  decide
theorem sh_Ps (ps : List (Nat × Nat)) : SeqAt.shaped (dPs ps) = true := by
  refine sh_of ?_ ?_
  · unfold dPs
    simp only [PyData.canLay0]
    exact lay_all _ fun x hx => by
      obtain ⟨n, _, rfl⟩ := List.mem_map.mp hx
      exact lay_P n
  · unfold dPs
    simp only [PyData.depth]
    have h : PyData.depthAll (ps.map dP) ≤ 1 := dep_all _ 1 fun x hx => by
      obtain ⟨n, _, rfl⟩ := List.mem_map.mp hx
      exact dep_P n
    omega
theorem sh_P (p : Nat × Nat) : SeqAt.shaped (dP p) = true := sh_of (lay_P p) (Nat.le_trans (dep_P p) (by decide))
theorem sh_nil : SeqAt.shaped (.list []) = true := sh_N []
theorem eqv_int (a b : Nat) : PyData.eqv (.int (a : Int)) (.int (b : Int)) = decide (a = b) := by
  simp only [PyData.eqv]
  by_cases h : a = b
  · subst h
    simp
  · rw [decide_eq_false h]
    exact beq_eq_false_iff_ne.mpr fun z => h (by exact_mod_cast z)
theorem eqv_all {α : Type} [DecidableEq α] {f : α → PyData} (hf : ∀ a b, PyData.eqv (f a) (f b) = decide (a = b)) : ∀ xs ys : List α, PyData.eqvAll (xs.map f) (ys.map f) = decide (xs = ys)
  | [], [] => by simp [PyData.eqvAll]
  | [], y :: ys => by simp [PyData.eqvAll]
  | x :: xs, [] => by simp [PyData.eqvAll]
  | x :: xs, y :: ys => by
    simp only [List.map_cons, PyData.eqvAll, hf, eqv_all hf xs ys]
    by_cases h1 : x = y
    · by_cases h2 : xs = ys
      · simp [h1, h2]
      · simp [h1, h2]
    · simp [h1]
theorem eqv_N (a b : List Nat) : PyData.eqv (dN a) (dN b) = decide (a = b) := by
  unfold dN
  simp only [PyData.eqv]
  exact eqv_all (f := fun n : Nat => PyData.int (n : Int)) eqv_int a b
theorem eqv_P (p q : Nat × Nat) : PyData.eqv (dP p) (dP q) = decide (p = q) := by
  obtain ⟨a, b⟩ := p
  obtain ⟨c, d⟩ := q
  have e : PyData.eqv (dP (a, b)) (dP (c, d)) = (PyData.eqv (.int (a : Int)) (.int (c : Int)) && (PyData.eqv (.int (b : Int)) (.int (d : Int)) && true)) := by
    unfold dP
    rw [PyData.eqv]
    rfl
  rw [e, eqv_int, eqv_int]
  by_cases h1 : a = c
  · by_cases h2 : b = d
    · simp [h1, h2]
    · simp [h1, h2]
  · simp [h1]
theorem eqv_Ps (a b : List (Nat × Nat)) : PyData.eqv (dPs a) (dPs b) = decide (a = b) := by
  unfold dPs
  simp only [PyData.eqv]
  exact eqv_all eqv_P a b
/-- == with the empty list -/
theorem eqv_nil (xs : List PyData) : PyData.eqv (.list xs) (.list []) = xs.isEmpty := by
  cases xs <;> simp [PyData.eqv, PyData.eqvAll]
end AW

set_option maxRecDepth 100000
set_option maxHeartbeats 4000000
namespace AW
open PySem PySem.Spec PyProof.Rows L2
section
variable {P : Program} {w : World} {K : PySem.W.Frag} {mg : Str → Option Value} {base : Heap} {f : Addr} {fd : FuncData}
theorem sc_within : FnScope ["thing", "low", "high"] ["thing", "low", "high"] (defScope (top 15)) := ⟨rfl, rfl, rfl, by decide +kernel, rfl, by decide +kernel, by decide +kernel⟩
theorem ok_within (B : Bn mg) (F : FnP K "is_within" "is_within" (top 15) f fd) (hm : mg "is_within" = some (.ref f)) : C8.Cal P w K mg base 1 "is_within" spWithin [] := by
  refine cal_mk F hm (fun _ _ _ _ _ _ us hl => match us, hl with | [_, _, _], _ => rfl) sc_within (fun vs H Q E h => ?_) (fun cdv A outer s H vs Q E hr h => ?_)
  · obtain ⟨t, lo, hi, rfl, _⟩ := h
    rfl
  · obtain ⟨t, lo, hi, rfl, q⟩ := h
    refine ⟨_, pss_one (ps_ret (pe_and (pe_callB call_isi (by rfl) B.isi (by decide +kernel) (pa_cons (pv 0) (pa_cons (pe_bltn (v := .ty "int") (by rfl) B.int (by decide +kernel) rfl) pa_nil)))
      (pe_and (pe_not (pe_callB call_isi (by rfl) B.isi (by decide +kernel) (pa_cons (pv 0) (pa_cons (pe_bltn (v := .ty "bool") (by rfl) B.bool (by decide +kernel) rfl) pa_nil))))
        (pe_one (pe_chain op_le op_le (pv 1) (pv 0) (pv 2)))))), ?_⟩
    refine ⟨_, rfl, _, _, _, _, true, rfl, .ty _, .base (.int _), kit_ty (by decide +kernel), true, rfl, iteT ?_⟩
    refine ⟨_, rfl, _, _, _, _, false, rfl, .ty _, .base (.int _), kit_ty (by decide +kernel), false, rfl, true, rfl, iteT ?_⟩
    refine ⟨_, rfl, _, rfl, _, _, rfl, rfl, _, rfl, ?_⟩
    by_cases h1 : lo ≤ t
    · rw [decide_eq_true h1] at q ⊢
      exact iteT ⟨_, rfl, _, _, rfl, rfl, by simpa using q⟩
    · rw [decide_eq_false h1] at q ⊢
      exact iteF (by simpa using q)
end
end AW

set_option maxRecDepth 100000
set_option maxHeartbeats 4000000
namespace AW
open PySem PySem.Spec PyProof.Rows L2
section
variable {P : Program} {w : World} {K : PySem.W.Frag} {mg : Str → Option Value} {base : Heap} {f : Addr} {fd : FuncData}
theorem sc_listed : FnScope ["thing"] ["thing"] (defScope (top 16)) := ⟨rfl, rfl, rfl, by decide +kernel, rfl, by decide +kernel, by decide +kernel⟩
theorem ok_listed (B : Bn mg) (F : FnP K "is_listed" "is_listed" (top 16) f fd) (hm : mg "is_listed" = some (.ref f)) : C8.Cal P w K mg base 1 "is_listed" spListed [] := by
  refine cal_mk F hm (fun _ _ _ _ _ _ us hl => match us, hl with | [_], _ => rfl) sc_listed (fun vs H Q E h => ?_) (fun cdv A outer s H vs Q E hr h => ?_)
  · obtain ⟨t, xs, rfl, _⟩ := h
    rfl
  · obtain ⟨t, xs, rfl, ht, q⟩ := h
    refine ⟨_, pss_one (ps_ret (pe_callB call_isiT (by rfl) B.isi (by decide +kernel) (pa_cons (pv 0) (pa_cons (pe_tup (pa_cons (pe_bltn (v := .ty "list") (by rfl) B.list (by decide +kernel) rfl) (pa_cons (pe_bltn (v := .ty "tuple") (by rfl) B.tuple (by decide +kernel) rfl) pa_nil))) pa_nil)))), ?_⟩
    refine ⟨_, rfl, (by show 2 ≤ sizeLine; decide), fun p hp => ?_⟩
    refine ⟨_, p, _, _, [.type "list", .type "tuple"], true, rfl, upd_same, .cons (.ty _) (.cons (.ty _) .nil), .base (.tup (by rw [upd_ne (ne_of_none ht hp)]; exact ht)), ?_, q _ (same_new hp)⟩
    exact kitAny_cons (b := false) (kit_ty (by decide +kernel)) (fun _ => kitAny_cons (b := true) (kit_ty (by decide +kernel)) (fun z => by cases z) fun _ => rfl) fun z => by cases z
theorem sc_pair : FnScope ["thing", "rooms", "one"] ["thing", "rooms"] (defScope (top 17)) := ⟨rfl, rfl, rfl, by decide +kernel, rfl, by decide +kernel, by decide +kernel⟩
theorem ok_pair (B : Bn mg) (F : FnP K "is_pair" "is_pair" (top 17) f fd) (hm : mg "is_pair" = some (.ref f)) (cL : C8.Cal P w K mg base 1 "is_listed" spListed []) (cW : C8.Cal P w K mg base 1 "is_within" spWithin []) :
    C8.Cal P w K mg base 2 "is_pair" spPair [] := by
  refine cal_mk F hm (fun _ _ _ _ _ _ us hl => match us, hl with | [_, _], _ => rfl) sc_pair (fun vs H Q E h => ?_) (fun cdv A outer s H vs Q E hr h => ?_)
  · obtain ⟨v, p, n, rfl, _⟩ := h
    rfl
  · obtain ⟨v, p, n, rfl, ⟨t, rfl, ht⟩, h1, h2, q⟩ := h
    refine ⟨_, pss_one (ps_ret (pe_and (C8.pe_c cL hr (by decide) rfl (pa_cons (pv 0) pa_nil)) (pe_and (pe_cmpR op_eq (pe_callB call_len_seq (by rfl) B.len PySem.boot_len (pa_cons (pv 0) pa_nil)) pe_int (nomark _))
      (pe_one (pe_callB (cr_all rfl) (by rfl) B.all (by decide +kernel) (pa_cons (pe_lc (own := [("one", 2)]) (g := gName 2) (tt := tYes) rfl sc_pair.nd (pi_tup (pv 0)) (blkOk_by (N := ["thing", "rooms", "one"]) (sc := defScope (top 17)) (by decide +kernel)) (fun _ _ _ _ _ => pg_name (i := 2) sc_pair.nd rfl (Or.inl rfl)) (fun _ _ _ _ _ => pts_nil)
        (fun _ _ _ _ _ => C8.pe_c cW hr (by decide) rfl (pa_cons (pv 2) (pa_cons pe_int (pa_cons (pe_op op_sub (pv 1) pe_int) pa_nil))))) pa_nil)))))), ?_⟩
    refine ⟨_, rfl, t, _, rfl, ht, fun H1 s1 => ⟨true, rfl, iteT ?_⟩⟩
    refine ⟨_, rfl, t, _, rfl, .inr (st_of (s1 t _ ht)), rfl, true, rfl, iteT ?_⟩
    refine ⟨_, rfl, t, rfl, ⟨_, st_of (s1 t _ ht)⟩, ?_⟩
    refine fun D hD => lc_all (walk_tup (K := K) (a := t) (xs := [nv p.1, nv p.2])) hD (fun _ y _ => y = .bl true) (fun _ _ _ _ _ h => h) (fun H' s2 => st_of (s2 t _ (s1 t _ ht))) (by show 2 ≤ 100000; decide) gName_mono ?_ ?_
    · rintro i x H' H'' ys hy hi s2 ⟨rfl, hx⟩ Ky hk
      have hx' : ∃ r : Nat, x = nv r ∧ r < n := by
        match i, hx with
        | 0, hx => exact ⟨p.1, (Option.some.inj hx).symm, h1⟩
        | 1, hx => exact ⟨p.2, (Option.some.inj hx).symm, h2⟩
      obtain ⟨r, rfl, hr'⟩ := hx'
      refine ⟨rfl, _, rfl, _, rfl, _, _, rfl, rfl, r, 0, (n : Int) - 1, rfl, ?_⟩
      refine hk _ _ (Same.refl _) ?_
      rw [decide_eq_true (by omega), decide_eq_true (by omega)]
      rfl
    · intro H' ys s2 hy ha
      have e : ys = [V.bl true, V.bl true] := A2.eqmap (f := fun _ : Nat => V.bl true) ha
      subst e
      exact ⟨D, [true, true], rfl, sq_of hy, q H' (s1.trans s2)⟩
end
end AW

set_option maxRecDepth 100000
set_option maxHeartbeats 4000000
namespace AW
open PySem PySem.Spec PyProof.Rows L2
section
variable {P : Program} {w : World} {K : PySem.W.Frag} {mg : Str → Option Value} {base : Heap} {f C : Addr} {fd : FuncData}
theorem sc_len : FnScope ["self"] ["self"] (defScope (met 2)) := ⟨rfl, rfl, rfl, by decide +kernel, rfl, by decide +kernel, by decide +kernel⟩
theorem ok_len (B : Bn mg) (W : Wc K C) (me : Meth K C "__len__" f) (F : FnP K "__len__" "Web.__len__" (met 2) f fd) : C8.Met P w K mg base 1 C "__len__" (spLen C) [] := by
  refine met_mk W.cl me F (fun _ _ _ _ _ _ us hl => match us, hl with | [_], _ => rfl) sc_len (fun vs H Q E h => ?_) (fun cdv A outer s H vs Q E hr h => ?_)
  · obtain ⟨x, n, ps, rfl, _⟩ := h
    rfl
  · obtain ⟨x, n, ps, rfl, hw, q⟩ := h
    obtain ⟨dx, tp, ll, lc, h1, h2, h3, h4⟩ := hw.ex
    obtain ⟨vs, hv, hl, ha⟩ := h2.sq (K := K)
    refine ⟨_, pss_one (ps_ret (pe_callB call_len_seq (by rfl) B.len PySem.boot_len (pa_cons (pe_fld (pv 0) rfl) pa_nil))), ?_⟩
    refine ⟨_, rfl, x, C, dx, _, _, rfl, h1, W.cl, W.nP, flds_pairs _ _ _ _, tp, vs, rfl, .inr hv, ?_⟩
    rw [hl]
    exact q
theorem sc_rooms : FnScope ["self"] ["self"] (defScope (met 4)) := ⟨rfl, rfl, rfl, by decide +kernel, rfl, by decide +kernel, by decide +kernel⟩
theorem ok_rooms (W : Wc K C) (me : Meth K C "rooms" f) (F : FnP K "rooms" "Web.rooms" (met 4) f fd) : C8.Met P w K mg base 1 C "rooms" (spRooms C) [] := by
  refine met_mk W.cl me F (fun _ _ _ _ _ _ us hl => match us, hl with | [_], _ => rfl) sc_rooms (fun vs H Q E h => ?_) (fun cdv A outer s H vs Q E hr h => ?_)
  · obtain ⟨x, n, ps, rfl, _⟩ := h
    rfl
  · obtain ⟨x, n, ps, rfl, hw, q⟩ := h
    obtain ⟨dx, tp, ll, lc, h1, h2, h3, h4⟩ := hw.ex
    refine ⟨_, pss_one (ps_ret (pe_fld (pv 0) rfl)), ?_⟩
    exact ⟨_, rfl, x, C, dx, _, _, rfl, h1, W.cl, W.nS, flds_size _ _ _ _, q⟩
theorem sc_arrows : FnScope ["self"] ["self"] (defScope (met 5)) := ⟨rfl, rfl, rfl, by decide +kernel, rfl, by decide +kernel, by decide +kernel⟩
theorem ok_arrows (B : Bn mg) (W : Wc K C) (me : Meth K C "arrows" f) (F : FnP K "arrows" "Web.arrows" (met 5) f fd) : C8.Met P w K mg base 1 C "arrows" (spArrows C) [] := by
  refine met_mk W.cl me F (fun _ _ _ _ _ _ us hl => match us, hl with | [_], _ => rfl) sc_arrows (fun vs H Q E h => ?_) (fun cdv A outer s H vs Q E hr h => ?_)
  · obtain ⟨x, n, ps, rfl, _⟩ := h
    rfl
  · obtain ⟨x, n, ps, rfl, hw, q⟩ := h
    obtain ⟨dx, tp, ll, lc, h1, ⟨vs, hv, ha⟩, h3, h4⟩ := hw.ex
    refine ⟨_, pss_one (ps_ret (pe_callTy call_list_of (by rfl) B.list (by decide +kernel) (pa_cons (pe_fld (pv 0) rfl) pa_nil))), ?_⟩
    refine ⟨_, rfl, x, C, dx, _, _, rfl, h1, W.cl, W.nP, flds_pairs _ _ _ _, tp, vs, rfl, .inr (st_of hv), fun p hp => ?_⟩
    exact q p _ hp (same_new hp) ⟨vs, upd_same, ha.mono fun _ _ => IsP.mono (same_new hp)⟩
theorem sc_has : FnScope ["self", "arrow"] ["self", "arrow"] (defScope (met 6)) := ⟨rfl, rfl, rfl, by decide +kernel, rfl, by decide +kernel, by decide +kernel⟩
theorem ok_has (B : Bn mg) (W : Wc K C) (me : Meth K C "has_arrow" f) (F : FnP K "has_arrow" "Web.has_arrow" (met 6) f fd) (cW : C8.Cal P w K mg base 1 "is_within" spWithin []) : C8.Met P w K mg base 2 C "has_arrow" (spHas C) [] := by
  refine met_mk W.cl me F (fun _ _ _ _ _ _ us hl => match us, hl with | [_, _], _ => rfl) sc_has (fun vs H Q E h => ?_) (fun cdv A outer s H vs Q E hr h => ?_)
  · obtain ⟨x, n, i, ps, rfl, _⟩ := h
    rfl
  · obtain ⟨x, n, i, ps, rfl, hw, hi, q⟩ := h
    obtain ⟨dx, tp, ll, lc, h1, h2, h3, h4⟩ := hw.ex
    obtain ⟨vs, hv, hl, ha⟩ := h2.sq (K := K)
    refine ⟨_, pss_one (ps_ret (C8.pe_c cW hr (by decide) rfl (pa_cons (pv 1) (pa_cons pe_int (pa_cons (pe_op op_sub (pe_callB call_len_seq (by rfl) B.len PySem.boot_len (pa_cons (pe_fld (pv 0) rfl) pa_nil)) pe_int) pa_nil))))), ?_⟩
    refine ⟨_, rfl, _, rfl, x, C, dx, _, _, rfl, h1, W.cl, W.nP, flds_pairs _ _ _ _, tp, vs, rfl, .inr hv, _, _, rfl, rfl, _, _, _, rfl, ?_⟩
    rw [decide_eq_true (by omega), decide_eq_true (by omega)]
    exact q
theorem sc_need : FnScope ["self", "room"] ["self", "room"] (defScope (met 7)) := ⟨rfl, rfl, rfl, by decide +kernel, rfl, by decide +kernel, by decide +kernel⟩
theorem ok_need (W : Wc K C) (me : Meth K C "need_room" f) (F : FnP K "need_room" "Web.need_room" (met 7) f fd) (cW : C8.Cal P w K mg base 1 "is_within" spWithin []) : C8.Met P w K mg base 2 C "need_room" (spNeed C) [] := by
  refine met_mk W.cl me F (fun _ _ _ _ _ _ us hl => match us, hl with | [_, _], _ => rfl) sc_need (fun vs H Q E h => ?_) (fun cdv A outer s H vs Q E hr h => ?_)
  · obtain ⟨x, n, i, ps, rfl, _⟩ := h
    rfl
  · obtain ⟨x, n, i, ps, rfl, hw, hi, q⟩ := h
    obtain ⟨dx, tp, ll, lc, h1, h2, h3, h4⟩ := hw.ex
    refine ⟨_, pss_one (ps_if (pt_not (pt_val (C8.pe_c cW hr (by decide) rfl (pa_cons (pv 1) (pa_cons pe_int (pa_cons (pe_op op_sub (pe_fld (pv 0) rfl) pe_int) pa_nil)))))) pss_never pss_nil), ?_⟩
    refine ⟨_, rfl, _, rfl, x, C, dx, _, _, rfl, h1, W.cl, W.nS, flds_size _ _ _ _, _, _, rfl, rfl, _, _, _, rfl, true, ?_, iteF q⟩
    rw [decide_eq_true (by omega), decide_eq_true (by omega)]
    rfl
theorem sc_begin : FnScope ["self", "arrow"] ["self", "arrow"] (defScope (met 8)) := ⟨rfl, rfl, rfl, by decide +kernel, rfl, by decide +kernel, by decide +kernel⟩
theorem ok_begin (W : Wc K C) (me : Meth K C "begin" f) (F : FnP K "begin" "Web.begin" (met 8) f fd) (cH : C8.Met P w K mg base 2 C "has_arrow" (spHas C) []) : C8.Met P w K mg base 3 C "begin" (spBegin C) [] := by
  refine met_mk W.cl me F (fun _ _ _ _ _ _ us hl => match us, hl with | [_, _], _ => rfl) sc_begin (fun vs H Q E h => ?_) (fun cdv A outer s H vs Q E hr h => ?_)
  · obtain ⟨x, n, i, ps, rfl, _⟩ := h
    rfl
  · obtain ⟨x, n, i, ps, rfl, hw, hi, q⟩ := h
    obtain ⟨dx, tp, ll, lc, h1, h2, h3, h4⟩ := hw.ex
    obtain ⟨vs, hv, hl, ha⟩ := h2.sq (K := K)
    obtain ⟨t, ht, hT⟩ := arrow_at ha hi
    refine ⟨_, pss_cons (ps_if (pt_not (pt_val (C8.pe_mt cH hr (by decide) (pv 0) (pa_cons (pv 1) pa_nil)))) pss_never pss_nil)
      (pss_one (ps_ret (pe_ix ix_tup (pe_ix ix_tup (pe_fld (pv 0) rfl) (pv 1) (fun _ _ => rfl)) pe_int (fun _ _ => rfl)))), ?_⟩
    refine ⟨_, rfl, x, dx, _, rfl, h1, flds_no _ _ _ _ (by decide +kernel) (by decide +kernel) (by decide +kernel) (by decide +kernel), _, rfl, x, n, i, ps, rfl, hw, hi, true, rfl, iteF ?_⟩
    refine ⟨_, rfl, x, C, dx, _, _, rfl, h1, W.cl, W.nP, flds_pairs _ _ _ _, _, rfl, tp, vs, _, _, rfl, rfl, hv, atI_nat ht, t, _, _, _, rfl, rfl, st_of hT, atI_nat (j := 0) rfl, q⟩
theorem sc_end : FnScope ["self", "arrow"] ["self", "arrow"] (defScope (met 9)) := ⟨rfl, rfl, rfl, by decide +kernel, rfl, by decide +kernel, by decide +kernel⟩
theorem ok_end (W : Wc K C) (me : Meth K C "end" f) (F : FnP K "end" "Web.end" (met 9) f fd) (cH : C8.Met P w K mg base 2 C "has_arrow" (spHas C) []) : C8.Met P w K mg base 3 C "end" (spEnd C) [] := by
  refine met_mk W.cl me F (fun _ _ _ _ _ _ us hl => match us, hl with | [_, _], _ => rfl) sc_end (fun vs H Q E h => ?_) (fun cdv A outer s H vs Q E hr h => ?_)
  · obtain ⟨x, n, i, ps, rfl, _⟩ := h
    rfl
  · obtain ⟨x, n, i, ps, rfl, hw, hi, q⟩ := h
    obtain ⟨dx, tp, ll, lc, h1, h2, h3, h4⟩ := hw.ex
    obtain ⟨vs, hv, hl, ha⟩ := h2.sq (K := K)
    obtain ⟨t, ht, hT⟩ := arrow_at ha hi
    refine ⟨_, pss_cons (ps_if (pt_not (pt_val (C8.pe_mt cH hr (by decide) (pv 0) (pa_cons (pv 1) pa_nil)))) pss_never pss_nil)
      (pss_one (ps_ret (pe_ix ix_tup (pe_ix ix_tup (pe_fld (pv 0) rfl) (pv 1) (fun _ _ => rfl)) pe_int (fun _ _ => rfl)))), ?_⟩
    refine ⟨_, rfl, x, dx, _, rfl, h1, flds_no _ _ _ _ (by decide +kernel) (by decide +kernel) (by decide +kernel) (by decide +kernel), _, rfl, x, n, i, ps, rfl, hw, hi, true, rfl, iteF ?_⟩
    refine ⟨_, rfl, x, C, dx, _, _, rfl, h1, W.cl, W.nP, flds_pairs _ _ _ _, _, rfl, tp, vs, _, _, rfl, rfl, hv, atI_nat ht, t, _, _, _, rfl, rfl, st_of hT, atI_nat (j := 1) rfl, q⟩
theorem sc_outs : FnScope ["self", "room"] ["self", "room"] (defScope (met 10)) := ⟨rfl, rfl, rfl, by decide +kernel, rfl, by decide +kernel, by decide +kernel⟩
theorem ok_outs (B : Bn mg) (W : Wc K C) (me : Meth K C "outs" f) (F : FnP K "outs" "Web.outs" (met 10) f fd) (cN : C8.Met P w K mg base 2 C "need_room" (spNeed C) []) : C8.Met P w K mg base 3 C "outs" (spOuts C) [] := by
  refine met_mk W.cl me F (fun _ _ _ _ _ _ us hl => match us, hl with | [_, _], _ => rfl) sc_outs (fun vs H Q E h => ?_) (fun cdv A outer s H vs Q E hr h => ?_)
  · obtain ⟨x, n, i, ps, rfl, _⟩ := h
    rfl
  · obtain ⟨x, n, i, ps, rfl, hw, hi, q⟩ := h
    obtain ⟨dx, tp, ll, lc, h1, h2, ⟨vs, hv, ha⟩, h4⟩ := hw.ex
    obtain ⟨l, ht, hT⟩ := row_at ha hi
    refine ⟨_, pss_cons (ps_expr (C8.pe_mt cN hr (by decide) (pv 0) (pa_cons (pv 1) pa_nil)))
      (pss_one (ps_ret (pe_callTy call_list_of (by rfl) B.list (by decide +kernel) (pa_cons (pe_ix ix_list (pe_fld (pv 0) rfl) (pv 1) (fun _ _ => rfl)) pa_nil)))), ?_⟩
    refine ⟨_, rfl, x, dx, _, rfl, h1, flds_no _ _ _ _ (by decide +kernel) (by decide +kernel) (by decide +kernel) (by decide +kernel), _, rfl, x, n, i, ps, rfl, hw, hi, ?_⟩
    refine ⟨_, rfl, x, C, dx, _, _, rfl, h1, W.cl, W.nL, flds_leaving _ _ _ _, _, rfl, ll, vs, _, _, rfl, rfl, sq_of hv, atI_nat ht, l, _, rfl, .inl (sq_of hT), fun p hp => ?_⟩
    exact q p _ hp (same_new hp) upd_same
theorem sc_ins : FnScope ["self", "room"] ["self", "room"] (defScope (met 11)) := ⟨rfl, rfl, rfl, by decide +kernel, rfl, by decide +kernel, by decide +kernel⟩
theorem ok_ins (B : Bn mg) (W : Wc K C) (me : Meth K C "ins" f) (F : FnP K "ins" "Web.ins" (met 11) f fd) (cN : C8.Met P w K mg base 2 C "need_room" (spNeed C) []) : C8.Met P w K mg base 3 C "ins" (spIns C) [] := by
  refine met_mk W.cl me F (fun _ _ _ _ _ _ us hl => match us, hl with | [_, _], _ => rfl) sc_ins (fun vs H Q E h => ?_) (fun cdv A outer s H vs Q E hr h => ?_)
  · obtain ⟨x, n, i, ps, rfl, _⟩ := h
    rfl
  · obtain ⟨x, n, i, ps, rfl, hw, hi, q⟩ := h
    obtain ⟨dx, tp, ll, lc, h1, h2, h3, ⟨vs, hv, ha⟩⟩ := hw.ex
    obtain ⟨l, ht, hT⟩ := row_at ha hi
    refine ⟨_, pss_cons (ps_expr (C8.pe_mt cN hr (by decide) (pv 0) (pa_cons (pv 1) pa_nil)))
      (pss_one (ps_ret (pe_callTy call_list_of (by rfl) B.list (by decide +kernel) (pa_cons (pe_ix ix_list (pe_fld (pv 0) rfl) (pv 1) (fun _ _ => rfl)) pa_nil)))), ?_⟩
    refine ⟨_, rfl, x, dx, _, rfl, h1, flds_no _ _ _ _ (by decide +kernel) (by decide +kernel) (by decide +kernel) (by decide +kernel), _, rfl, x, n, i, ps, rfl, hw, hi, ?_⟩
    refine ⟨_, rfl, x, C, dx, _, _, rfl, h1, W.cl, W.nC, flds_coming _ _ _ _, _, rfl, lc, vs, _, _, rfl, rfl, sq_of hv, atI_nat ht, l, _, rfl, .inl (sq_of hT), fun p hp => ?_⟩
    exact q p _ hp (same_new hp) upd_same
end
end AW

set_option maxRecDepth 100000
set_option maxHeartbeats 4000000
namespace AW
open PySem PySem.Spec PyProof.Rows L2
/-! Web.__init__ -/
/-- the arrows whose part c is r, by their numbers: the comprehension over enumerate of the tuple of arrows -/
def sel (c : Nat) (p : Nat × Nat) : Nat := if c = 0 then p.1 else p.2
theorem lc_rows {K : PySem.W.Frag} {σ : L2.St} {H : Hp} {D : Addr} {Qd : Hp → Prop} {s1 s2 s3 a c r : Nat} {ps : List (Nat × Nat)} {vs : List V} (hc : c < 2) (hv : H a = some (.tup vs)) (ha : A2 (IsP H) ps vs) (hn : ps.length ≤ 100000)
    (hw : ∀ x y, wipe (((wipe σ [s1, s2]).set s1 (some x)).set s2 (some y)) [s1, s2] = wipe σ [s1, s2]) (h1 : ∀ x y, (((wipe σ [s1, s2]).set s1 (some x)).set s2 (some y))[s1]? = some (some x)) (h2 : ∀ x y, (((wipe σ [s1, s2]).set s1 (some x)).set s2 (some y))[s2]? = some (some y))
    (h3 : ∀ x y, (((wipe σ [s1, s2]).set s1 (some x)).set s2 (some y))[s3]? = some (some (nv r))) (hD : H D = none)
    (hd : ∀ H', Same H H' → NL H' D ((List.range ps.length).filter fun i => decide (sel c (ps.getD i (0, 0)) = r)) → Qd H') :
    ∃ W : Nat → Nat → Hp → Prop, (∃ m, W 0 m (upd H D (.lst []))) ∧ ∀ i m H, W i m H →
      ((IteT K a).stop i H ∧ Qd H) ∨ ((IteT K a).go i H ∧ ∃ Nx : Hp → Prop, (∀ H', Nx H' → ∃ m', m' < m ∧ W (i + 1) m' H') ∧ ∀ x H', (IteT K a).yld i H x H' → gTup K 2 (gCons (gName s1) (gCons (gName s2) gNil)) x (wipe σ [s1, s2]) H' fun σ2 H2 => wipe σ2 [s1, s2] = wipe σ [s1, s2] ∧
        tTest (tOp rEq (tOp (rIxT K) (tVar s2) (tC (.int (c : Int)))) (tVar s3)) σ2 H2 fun b H3 =>
        if b = true then tVar s1 σ2 H3 fun y H4 => ∃ acc, H4 D = some (.lst acc) ∧ acc.length < sizeLine ∧ Nx (upd H4 D (.lst (acc ++ [y]))) else Nx H3) := by
  have hl : vs.length = ps.length := ha.len.symm
  refine lc_gen (walk_enumT (K := K) (a := a) (xs := vs)) hD (fun i => decide (sel c (ps.getD i (0, 0)) = r)) (fun i y _ => y = nv i) (fun _ _ _ _ _ h => h) (fun H' s2 => st_of (s2 a _ hv)) (by omega) ?_ ?_
  · rintro i x H' H'' ys hy hi sm ⟨T, x1, x2, rfl, hT, rfl, e1, e2⟩ Kn Ky kn ky
    have ex1 : nv i = x1 := Option.some.inj e1
    subst ex1
    obtain ⟨t, et, ht⟩ := arrow_at (i := i) ha (by omega)
    have ex2 : x2 = V.ref t := Option.some.inj (e2.symm.trans et)
    subst ex2
    have hT2 : t ≠ T := ne_of_none (sm t _ ht) hT
    refine ⟨T, _, rfl, st_of upd_same, rfl, _, _, rfl, _, _, rfl, rfl, hw _ _, _, h2 _ _, t, _, (c : Int), nv (sel c (ps.getD i (0, 0))), rfl, rfl, st_of (by rw [upd_ne hT2]; exact sm t _ ht), ?_, _, h3 _ _, rfl, _, rfl, ?_⟩
    · refine atI_nat ?_
      unfold sel
      match c, hc with
      | 0, _ => rfl
      | 1, _ => rfl
    · by_cases h : sel c (ps.getD i (0, 0)) = r
      · have e : decide (nv (sel c (ps.getD i (0, 0))) = nv r) = true := decide_eq_true (by rw [h])
        rw [e]
        exact iteT ⟨_, h1 _ _, ky (decide_eq_true h) _ _ (same_new hT) rfl⟩
      · have e : decide (nv (sel c (ps.getD i (0, 0))) = nv r) = false := decide_eq_false fun z => h (by injection z with z; omega)
        rw [e]
        exact iteF (kn (decide_eq_false h) _ (same_new hT))
  · intro H' ys sm hy hA
    have e := A2.eqmap (f := nv) hA
    subst e
    rw [hl] at hy
    exact hd H' sm hy
/-- the scope of [.. for room in range(rooms)] in __init__ -/
def scRoom : Scope := { kind := .function, names := [(".0", .local), ("room", .cell), ("enumerate", .globalImplicit), ("self", .free)], isGenerator := false, isCoroutine := false, more := [] }
/-- tuple(x) -/
abbrev rTupOf (K : PySem.W.Frag) : List V → Hp → VK → Prop := fun xs H Q => ∃ p ys, xs = [.ref p] ∧ ((SqL K H p ys ∧ ∀ l, H l = none → Q (.ref l) (upd H l (.tup ys))) ∨ (SqT K H p ys ∧ Q (.ref p) H))
/-- [at for at, pair in enumerate(self.pairs) if pair[c] == room] -/
abbrev tRowsC (K : PySem.W.Frag) (c : Int) : TE := tLc (iEnumT K (tCons (tFld K (tVar 0) "pairs") tNil)) (gTup K 2 (gCons (gName 3) (gCons (gName 4) gNil))) (tTest (tOp rEq (tOp (rIxT K) (tVar 4) (tC (.int c))) (tVar 5))) (tVar 3) [3, 4]
def spInit (C : Addr) : Sp := fun vs H Q _ => ∃ (x dx a : Addr) (n : Nat) (ps : List (Nat × Nat)), vs = [.ref x, nv n, .ref a] ∧ H x = some (.ins C dx []) ∧ PL H a ps ∧ AF.Good n ps ∧ n ≤ 100 ∧ ps.length < 400 ∧
  ∀ H', (∀ b o, H b = some o → b ≠ x → H' b = some o) → WebAt C H' x n ps → Q .non H'
/-- the attributes, store by store -/
def fs1 (n : Nat) : List (Str × V) := [("size", nv n)]
def fs2 (n : Nat) (tp : Addr) : List (Str × V) := [("size", nv n), ("pairs", .ref tp)]
def fs3 (n : Nat) (tp ll : Addr) : List (Str × V) := [("size", nv n), ("pairs", .ref tp), ("leaving", .ref ll)]
theorem put1 (n : Nat) : putF "size" (nv n) [] = fs1 n := rfl
theorem put2 (n : Nat) (tp : Addr) : putF "pairs" (.ref tp) (fs1 n) = fs2 n tp := by
  have e1 : ¬ (("size" : Str) = "pairs") := by decide +kernel
  unfold fs1 fs2
  simp only [putF, if_neg e1]
theorem put3 (n : Nat) (tp ll : Addr) : putF "leaving" (.ref ll) (fs2 n tp) = fs3 n tp ll := by
  have e2 : ¬ (("size" : Str) = "leaving") := by decide +kernel
  have e4 : ¬ (("pairs" : Str) = "leaving") := by decide +kernel
  unfold fs2 fs3
  simp only [putF, if_neg e2, if_neg e4]
theorem put4 (n : Nat) (tp ll lc : Addr) : putF "coming" (.ref lc) (fs3 n tp ll) = flds n tp ll lc := by
  have e3 : ¬ (("size" : Str) = "coming") := by decide +kernel
  have e5 : ¬ (("pairs" : Str) = "coming") := by decide +kernel
  have e6 : ¬ (("leaving" : Str) = "coming") := by decide +kernel
  unfold fs3 flds
  simp only [putF, if_neg e3, if_neg e5, if_neg e6]
theorem fs2_pairs (n : Nat) (tp : Addr) : (fs2 n tp).lookup ("pairs" : Str) = some (.ref tp) := by simp [fs2, List.lookup, k_ps]
theorem fs3_pairs (n : Nat) (tp ll : Addr) : (fs3 n tp ll).lookup ("pairs" : Str) = some (.ref tp) := by simp [fs3, List.lookup, k_ps]
/-- what stands off an instance -/
theorem PT.off {H : Hp} {x tp C dx : Addr} {fs : List (Str × V)} {ps : List (Nat × Nat)} (hx : H x = some (.ins C dx fs)) (h : PT H tp ps) : PT (ers x H) tp ps := by
  obtain ⟨vs, h, r⟩ := h
  refine ⟨vs, by rw [ers_ne (ne_of h hx (by intro z; cases z))]; exact h, r.mono fun p v z => ?_⟩
  obtain ⟨t, e, ht⟩ := z
  exact ⟨t, e, by rw [ers_ne (ne_of ht hx (by intro z; cases z))]; exact ht⟩
theorem LL.off {H : Hp} {x tp C dx : Addr} {fs : List (Str × V)} {nss : List (List Nat)} (hx : H x = some (.ins C dx fs)) (h : LL H tp nss) : LL (ers x H) tp nss := by
  obtain ⟨vs, h, r⟩ := h
  refine ⟨vs, by rw [ers_ne (ne_of h hx (by intro z; cases z))]; exact h, r.mono fun p v z => ?_⟩
  obtain ⟨t, e, ht⟩ := z
  have ht' : H t = some (.lst (p.map nv)) := ht
  exact ⟨t, e, by show ers x H t = _; rw [ers_ne (ne_of ht' hx (by intro z; cases z))]; exact ht⟩
theorem ers_to {H : Hp} {x : Addr} {o : HO} : Same (ers x H) (upd H x o) := fun b u e => by
  unfold ers at e
  split at e
  · cases e
  · rename_i hb
    rw [upd_ne hb]
    exact e
theorem walk_rangeN {n : Nat} : Walk (Itr 0 n) n (fun _ => True) (YFn nv) := walk_range.mono (fun _ h => h) fun i H x H' _ _ y => ⟨y.1, by rw [y.2]; show V.int (0 + (i : Int)) = V.int (i : Int); rw [Int.zero_add]⟩
theorem range_getD (ps : List (Nat × Nat)) : (List.range ps.length).map (fun i => ps.getD i (0, 0)) = ps := by
  apply List.ext_getElem?
  intro i
  rw [List.getElem?_map]
  by_cases h : i < ps.length
  · rw [List.getElem?_range h, get_of h]
    rfl
  · rw [List.getElem?_eq_none (by rw [List.length_range]; omega), List.getElem?_eq_none (by omega)]
    rfl
theorem a2_range {H : Hp} {ps : List (Nat × Nat)} {ys : List V} (h : A2 (fun i y => IsP H (ps.getD i (0, 0)) y) (List.range ps.length) ys) : A2 (IsP H) ps ys := by
  have z := A2.mapL (R := IsP H) (f := fun i => ps.getD i (0, 0)) h
  rw [range_getD] at z
  exact z
theorem outs_ne {n r : Nat} {ps : List (Nat × Nat)} (G : AF.Good n ps) (hr : r < n) : outsOf ps r ≠ [] := by
  obtain ⟨p, hp, e⟩ := G.2.2 r hr
  obtain ⟨i, hi⟩ := List.mem_iff_getElem?.mp hp
  intro z
  have h : i ∈ outsOf ps r := by
    unfold outsOf
    refine List.mem_filter.mpr ⟨List.mem_range.mpr (List.getElem?_eq_some_iff.mp hi).1, decide_eq_true ?_⟩
    rw [getD_of hi]
    exact e
  rw [z] at h
  cases h
section
variable {P : Program} {w : World} {K : PySem.W.Frag} {mg : Str → Option Value} {base : Heap} {f C : Addr} {fd : FuncData}
abbrev Ninit : List Str := ["self", "rooms", "arrows", "at", "pair", "room"]
theorem sc_init : FnScope Ninit ["self", "rooms", "arrows"] (defScope (met 0)) := ⟨rfl, rfl, rfl, by decide +kernel, rfl, by decide +kernel, by decide +kernel⟩
theorem ok_init (B : Bn mg) (W : Wc K C) (M : Mk K C f) (hm : mg "Web" = some (.ref C)) (F : FnP K "__init__" "Web.__init__" (met 0) f fd) (cW : C8.Cal P w K mg base 1 "is_within" spWithin []) (cP : C8.Cal P w K mg base 2 "is_pair" spPair []) :
    C8.Mak P w K mg base 3 "Web" C (spInit C) [] := by
  obtain ⟨tR, mR⟩ := B.rooms
  obtain ⟨tA, mA⟩ := B.arrows
  refine mak_mk M hm F (fun _ _ _ _ _ _ us hl => match us, hl with | [_, _, _], _ => rfl) sc_init (fun vs H Q E h => ?_) (fun cdv A outer s H vs Q E hr h => ?_)
  · obtain ⟨x, dx, a, n, ps, rfl, _⟩ := h
    rfl
  · obtain ⟨x, dx, a, n, ps, rfl, hx, ⟨vs, hv, ha⟩, G, hn, hl, q⟩ := h
    have hlv : vs.length = ps.length := ha.len.symm
    refine ⟨_, pss_cons (ps_if (pt_not (pt_val (C8.pe_c cW hr (by decide) rfl (pa_cons (pv 1) (pa_cons pe_int (pa_cons (pe_glob (v := .int 100) rfl mR ⟨_, rfl⟩) pa_nil)))))) pss_never pss_nil)
      (pss_cons (ps_for PassesOwn.never rfl (pi_enum (by rfl) B.enumerate (pa_cons (pv 2) pa_nil)) (pg_tup rfl (pgs_cons (pg_name (i := 3) sc_init.nd rfl (Or.inl rfl)) (pgs_cons (pg_name (i := 4) sc_init.nd rfl (Or.inl rfl)) pgs_nil)))
        (pss_one (ps_if (PW.pt (pw_or (pt_cmpR op_eq (pv 3) (pe_glob (v := .int 400) rfl mA ⟨_, rfl⟩) (nomark _)) (pw_or1 (pt_not (pt_val (C8.pe_c cP hr (by decide) rfl (pa_cons (pv 4) (pa_cons (pv 1) pa_nil)))))))) pss_never pss_nil)))
      (pss_cons (ps_fld (pv 0) (pv 1) rfl)
      (pss_cons (ps_fld (pv 0) (pe_callTy call_tuple_of (by rfl) B.tuple (by decide +kernel) (pa_cons (pe_lc (own := [("pair", 4)]) (g := gName 4) (tt := tYes) (te := tCB (rTupOf K) (tCons (tVar 4) tNil)) rfl sc_init.nd (pi_list (pv 2)) (blkOk_by (N := Ninit) (sc := defScope (met 0)) (by decide +kernel))
          (fun _ _ _ _ _ => pg_name (i := 4) sc_init.nd rfl (Or.inl rfl)) (fun _ _ _ _ _ => pts_nil) (fun _ _ _ _ _ => pe_callTy (T := "tuple") call_tuple_of (by rfl) B.tuple (by decide +kernel) (pa_cons (pv 4) pa_nil))) pa_nil)) rfl)
      (pss_cons (ps_fld (pv 0) (pe_lc (own := [("room", 5)]) (g := gName 5) (tt := tYes) (te := tRowsC K 0) rfl sc_init.nd (pi_range1 rfl B.range (pa_cons (pv 1) pa_nil)) (blkOk_by (N := Ninit) (sc := defScope (met 0)) (by decide +kernel))
          (fun _ _ _ _ _ => pg_name (i := 5) sc_init.nd rfl (Or.inr rfl)) (fun _ _ _ _ _ => pts_nil)
          (fun _ _ _ _ _ => pe_lc (own := [("at", 3), ("pair", 4)]) rfl sc_init.nd (pi_enumT (by rfl) B.enumerate (pa_cons (pe_fld (pv 0) rfl) pa_nil)) (blkOk_by (N := Ninit) (sc := relS scRoom (defScope (met 0))) (by decide +kernel))
            (fun _ _ _ _ _ => pg_tup rfl (pgs_cons (pg_name (i := 3) sc_init.nd rfl (Or.inl rfl)) (pgs_cons (pg_name (i := 4) sc_init.nd rfl (Or.inl rfl)) pgs_nil)))
            (fun _ _ _ _ _ => pts_one (pt_cmpR op_eq (pe_ix ix_tup (pv 4) pe_int (fun _ _ => rfl)) (pv 5) (nomark _))) (fun _ _ _ _ _ => pv 3))) rfl)
      (pss_cons (ps_fld (pv 0) (pe_lc (own := [("room", 5)]) (g := gName 5) (tt := tYes) (te := tRowsC K 1) rfl sc_init.nd (pi_range1 rfl B.range (pa_cons (pv 1) pa_nil)) (blkOk_by (N := Ninit) (sc := defScope (met 0)) (by decide +kernel))
          (fun _ _ _ _ _ => pg_name (i := 5) sc_init.nd rfl (Or.inr rfl)) (fun _ _ _ _ _ => pts_nil)
          (fun _ _ _ _ _ => pe_lc (own := [("at", 3), ("pair", 4)]) rfl sc_init.nd (pi_enumT (by rfl) B.enumerate (pa_cons (pe_fld (pv 0) rfl) pa_nil)) (blkOk_by (N := Ninit) (sc := relS scRoom (defScope (met 0))) (by decide +kernel))
            (fun _ _ _ _ _ => pg_tup rfl (pgs_cons (pg_name (i := 3) sc_init.nd rfl (Or.inl rfl)) (pgs_cons (pg_name (i := 4) sc_init.nd rfl (Or.inl rfl)) pgs_nil)))
            (fun _ _ _ _ _ => pts_one (pt_cmpR op_eq (pe_ix ix_tup (pv 4) pe_int (fun _ _ => rfl)) (pv 5) (nomark _))) (fun _ _ _ _ _ => pv 3))) rfl)
      (pss_one (ps_if (pt_cmpR (op_inD (show _ + 65 < cLine from hr.in1.units)) (pe_lst pa_nil) (pe_fld (pv 0) rfl) (by rfl)) pss_never pss_nil))))))), ?_⟩
    have hn1 := G.1
    -- is_within(rooms, 1, MOST_ROOMS)
    refine ⟨_, rfl, _, _, _, rfl, true, ?_, iteF ?_⟩
    · rw [decide_eq_true (by omega), decide_eq_true (by omega)]
      rfl
    -- for at, pair in enumerate(arrows)
    refine ⟨_, rfl, a, vs, rfl, sq_of hv, for_it (walk_enum (K := K) (a := a) (xs := vs)) (fun i σ H1 => ∃ v3 v4 : Option V, σ = [some (.ref x), some (nv n), some (.ref a), v3, v4, none] ∧ Same H H1) ⟨none, none, rfl, Same.refl _⟩ (fun i σ H1 _ ⟨_, _, _, s1⟩ => sq_of (s1 a _ hv)) ?_ ?_⟩
    · rintro i xx σ H1 H2 hi ⟨v3, v4, rfl, s1⟩ ⟨T, x1, x2, rfl, hT, rfl, e1, e2⟩
      have ex1 : nv i = x1 := Option.some.inj e1
      subst ex1
      obtain ⟨p, ep, hp⟩ := ha.get2 e2
      have gb := G.2.1 p (List.mem_of_getElem? ep)
      refine ⟨T, _, rfl, st_of upd_same, rfl, _, _, rfl, _, _, rfl, rfl, ?_⟩
      refine ⟨_, rfl, rfl, _, rfl, ?_⟩
      have e400 : decide (nv i = V.int 400) = false := decide_eq_false fun z => by injection z with z; omega
      rw [e400]
      refine iteF ?_
      refine ⟨_, rfl, _, rfl, x2, p, n, rfl, (hp.mono s1).mono (same_new hT), gb.1, gb.2, fun H3 s3 => ⟨true, rfl, iteF ?_⟩⟩
      exact ⟨_, _, rfl, (s1.trans (same_new hT)).trans s3⟩
    · rintro σ H1 ⟨v3, v4, rfl, s1⟩
      have hx1 := s1 x _ hx
      have hv1 := s1 a _ hv
      have hax : a ≠ x := ne_of hv hx (by intro z; cases z)
      -- self.size = rooms
      refine ⟨_, rfl, _, rfl, x, C, dx, [], rfl, hx1, W.cl, W.nS, (by show 0 < 1000; decide), ?_⟩
      rw [put1]
      have k2 : ∀ b o, H b = some o → b ≠ x → (upd H1 x (.ins C dx (fs1 n))) b = some o := fun b o e hb => by rw [upd_ne hb]; exact s1 b o e
      generalize hH2 : upd H1 x (.ins C dx (fs1 n)) = H2 at k2 ⊢
      have hx2 : H2 x = some (.ins C dx (fs1 n)) := by rw [← hH2]; exact upd_same
      have hv2 := k2 a _ hv hax
      have ha2 : A2 (IsP H2) ps vs := ha.mono fun p v ⟨t, e, ht⟩ => ⟨t, e, k2 t _ ht (ne_of ht hx (by intro z; cases z))⟩
      clear hH2 hx1 hv1 s1
      -- self.pairs = tuple([tuple(pair) for pair in arrows])
      refine ⟨_, rfl, a, rfl, ⟨vs, sq_of hv2⟩, fun D hD => lc_all (walk_list (K := K) (a := a) (xs := vs)) hD (fun i y H' => IsP H' (ps.getD i (0, 0)) y) (fun _ _ _ _ => IsP.mono) (fun H' s3 => sq_of (s3 a _ hv2)) (by omega) gName_mono ?_ ?_⟩
      · rintro i xx H' H'' ys hy hi s3 ⟨rfl, hxx⟩ Ky hk
        obtain ⟨t, et, ht⟩ := arrow_at (i := i) ha2 (by omega)
        cases Option.some.inj (hxx.symm.trans et)
        refine ⟨rfl, _, rfl, t, _, rfl, .inr ⟨st_of (s3 t _ ht), hk _ _ (Same.refl _) (IsP.ers hy ⟨t, rfl, s3 t _ ht⟩)⟩⟩
      · intro H3 ys s3 hy hA
        rw [hlv] at hA
        have hA := a2_range hA
        refine ⟨D, ys, rfl, .inl ⟨sq_of hy, fun tp htp => ?_⟩⟩
        have hx3 : (upd H3 tp (.tup ys)) x = some (.ins C dx (fs1 n)) := by rw [upd_ne (ne_of_none (s3 x _ hx2) htp)]; exact s3 x _ hx2
        refine ⟨_, rfl, x, C, dx, _, rfl, hx3, W.cl, W.nP, (by show 1 < 1000; decide), ?_⟩
        rw [put2]
        have p3 : PT (upd H3 tp (.tup ys)) tp ps := ⟨ys, upd_same, hA.mono fun _ _ => IsP.mono (same_new htp)⟩
        have p4 : PT (upd (upd H3 tp (.tup ys)) x (.ins C dx (fs2 n tp))) tp ps := (p3.off hx3).mono ers_to
        have k4 : ∀ b o, H b = some o → b ≠ x → (upd (upd H3 tp (.tup ys)) x (.ins C dx (fs2 n tp))) b = some o := fun b o e hb => by
          rw [upd_ne hb]
          exact same_new htp b o (s3 b o (k2 b o e hb))
        generalize hH4 : upd (upd H3 tp (.tup ys)) x (.ins C dx (fs2 n tp)) = H4 at p4 k4 ⊢
        have hx4 : H4 x = some (.ins C dx (fs2 n tp)) := by rw [← hH4]; exact upd_same
        clear hH4 p3 hx3 htp hA hy s3 hD hx2 hv2 ha2 k2
        -- self.leaving
        obtain ⟨vs4, hv4, ha4⟩ := id p4
        refine ⟨_, rfl, (n : Int), rfl, by omega, by omega, fun D hD => lc_all (walk_rangeN (n := n)) hD (fun i y H' => IsN H' (outsOf ps i) y) (fun _ _ _ _ => IsN.mono) (fun _ _ => trivial) (by omega) gName_mono ?_ ?_⟩
        · rintro i xx H' H'' ys2 hy hi s5 ⟨rfl, rfl⟩ Ky hk
          refine ⟨rfl, _, rfl, x, C, dx, _, _, rfl, s5 x _ hx4, W.cl, W.nP, fs2_pairs _ _, tp, vs4, rfl, st_of (s5 tp _ hv4), fun D2 hD2 => ?_⟩
          refine lc_rows (r := i) (by decide) (s5 tp _ hv4) (ha4.mono fun _ _ => IsP.mono s5) (by omega) (fun _ _ => rfl) (fun _ _ => rfl) (fun _ _ => rfl) (fun _ _ => rfl) hD2 fun H6 s6 h6 => hk _ _ s6 ⟨D2, rfl, ?_⟩
          show ers D H6 D2 = _
          rw [ers_ne (fun z => by rw [z, hy] at hD2; cases hD2)]
          exact h6
        · intro H5 ls s5 hy hA
          have hx5 := s5 x _ hx4
          refine ⟨_, rfl, x, C, dx, _, rfl, hx5, W.cl, W.nL, (by show 2 < 1000; decide), ?_⟩
          rw [put3]
          have l5 : LL H5 D ((List.range n).map (outsOf ps)) := ⟨ls, hy, hA.mapL⟩
          have p6 : PT (upd H5 x (.ins C dx (fs3 n tp D))) tp ps := ((p4.mono s5).off hx5).mono ers_to
          have l6 : LL (upd H5 x (.ins C dx (fs3 n tp D))) D ((List.range n).map (outsOf ps)) := (l5.off hx5).mono ers_to
          have k6 : ∀ b o, H b = some o → b ≠ x → (upd H5 x (.ins C dx (fs3 n tp D))) b = some o := fun b o e hb => by
            rw [upd_ne hb]
            exact s5 b o (k4 b o e hb)
          generalize hH6 : upd H5 x (.ins C dx (fs3 n tp D)) = H6 at p6 l6 k6 ⊢
          have hx6 : H6 x = some (.ins C dx (fs3 n tp D)) := by rw [← hH6]; exact upd_same
          clear hH6 l5 hA hy hx5 s5 hx4 p4 k4 hv4 ha4 hD
          -- self.coming
          obtain ⟨vs6, hv6, ha6⟩ := id p6
          refine ⟨_, rfl, (n : Int), rfl, by omega, by omega, fun D3 hD3 => lc_all (walk_rangeN (n := n)) hD3 (fun i y H' => IsN H' (insOf ps i) y) (fun _ _ _ _ => IsN.mono) (fun _ _ => trivial) (by omega) gName_mono ?_ ?_⟩
          · rintro i xx H' H'' ys2 hy hi s5 ⟨rfl, rfl⟩ Ky hk
            refine ⟨rfl, _, rfl, x, C, dx, _, _, rfl, s5 x _ hx6, W.cl, W.nP, fs3_pairs _ _ _, tp, vs6, rfl, st_of (s5 tp _ hv6), fun D2 hD2 => ?_⟩
            refine lc_rows (r := i) (c := 1) (by decide) (s5 tp _ hv6) (ha6.mono fun _ _ => IsP.mono s5) (by omega) (fun _ _ => rfl) (fun _ _ => rfl) (fun _ _ => rfl) (fun _ _ => rfl) hD2 fun H7 s7 h7 => hk _ _ s7 ⟨D2, rfl, ?_⟩
            show ers D3 H7 D2 = _
            rw [ers_ne (fun z => by rw [z, hy] at hD2; cases hD2)]
            exact h7
          · intro H7 cs s7 hy hA
            have hx7 := s7 x _ hx6
            refine ⟨_, rfl, x, C, dx, _, rfl, hx7, W.cl, W.nC, (by show 3 < 1000; decide), ?_⟩
            rw [put4]
            have c7 : LL H7 D3 ((List.range n).map (insOf ps)) := ⟨cs, hy, hA.mapL⟩
            have p8 : PT (upd H7 x (.ins C dx (flds n tp D D3))) tp ps := ((p6.mono s7).off hx7).mono ers_to
            have l8 : LL (upd H7 x (.ins C dx (flds n tp D D3))) D ((List.range n).map (outsOf ps)) := ((l6.mono s7).off hx7).mono ers_to
            have c8 : LL (upd H7 x (.ins C dx (flds n tp D D3))) D3 ((List.range n).map (insOf ps)) := (c7.off hx7).mono ers_to
            have k8 : ∀ b o, H b = some o → b ≠ x → (upd H7 x (.ins C dx (flds n tp D D3))) b = some o := fun b o e hb => by
              rw [upd_ne hb]
              exact s7 b o (k6 b o e hb)
            generalize hH8 : upd H7 x (.ins C dx (flds n tp D D3)) = H8 at p8 l8 c8 k8 ⊢
            have hx8 : H8 x = some (.ins C dx (flds n tp D D3)) := by rw [← hH8]; exact upd_same
            have w8 : WebAt C H8 x n ps := ⟨⟨dx, tp, D, D3, hx8, p8, l8, c8⟩, G, hn, hl⟩
            -- [] in self.leaving
            refine ⟨Nat.zero_le _, fun e he => ⟨_, rfl, x, C, dx, _, _, rfl, same_new he x _ hx8, W.cl, W.nL, flds_leaving _ _ _ _, _, _, dp_nil upd_same, dp_L (l8.mono (same_new he)), sh_nil, sh_L _, _, rfl, ?_⟩⟩
            have no : (((List.range n).map (outsOf ps)).map dN).any (fun z => PyData.eqv z (.list [])) = false := by
              rw [List.any_eq_false]
              intro z hz
              obtain ⟨ns, hns, rfl⟩ := List.mem_map.mp hz
              obtain ⟨r, hr', rfl⟩ := List.mem_map.mp hns
              have hne := outs_ne G (List.mem_range.mp hr')
              unfold dN
              rw [eqv_nil]
              intro h
              rw [List.isEmpty_iff, List.map_eq_nil_iff] at h
              exact hne h
            rw [no]
            refine iteF (q _ (fun b o e' hb => same_new he b o (k8 b o e' hb)) (w8.mono (same_new he)))
end
end AW

set_option maxRecDepth 100000
set_option maxHeartbeats 4000000
namespace AW
open PySem PySem.Spec PyProof.Rows L2
/-! Web.rounds -/
theorem map_getD {α β : Type} (xs : List α) (d : α) (g : α → β) : (List.range xs.length).map (fun i => g (xs.getD i d)) = xs.map g := by
  apply List.ext_getElem?
  intro i
  rw [List.getElem?_map, List.getElem?_map]
  by_cases h : i < xs.length
  · rw [List.getElem?_range h, List.getElem?_eq_getElem h]
    show some (g (xs.getD i d)) = some (g xs[i])
    rw [List.getD_eq_getElem?_getD, List.getElem?_eq_getElem h]
    rfl
  · rw [List.getElem?_eq_none (by rw [List.length_range]; omega), List.getElem?_eq_none (by omega)]
    rfl
/-- the rooms from which the arrows to a room lead -/
theorem ins_col (ps : List (Nat × Nat)) (r : Nat) : (insOf ps r).map (fun a => (ps.getD a (0, 0)).1) = AF.col ps r := by
  have e : ps.filter (fun p => decide (p.2 = r)) = ((List.range ps.length).map fun i => ps.getD i (0, 0)).filter fun p => decide (p.2 = r) := by rw [range_getD]
  unfold insOf AF.col
  rw [e, List.filter_map, List.map_map]
  rfl
theorem ins_lt {ps : List (Nat × Nat)} {r a : Nat} (h : a ∈ insOf ps r) : a < ps.length ∧ (ps.getD a (0, 0)).2 = r := by
  unfold insOf at h
  have z := List.mem_filter.mp h
  exact ⟨List.mem_range.mp z.1, of_decide_eq_true z.2⟩
theorem ins_len (ps : List (Nat × Nat)) (r : Nat) : (insOf ps r).length ≤ ps.length := by
  have h := List.length_filter_le (fun i => decide ((ps.getD i (0, 0)).2 = r)) (List.range ps.length)
  rw [List.length_range] at h
  exact h
theorem outs_len (ps : List (Nat × Nat)) (r : Nat) : (outsOf ps r).length ≤ ps.length := by
  have h := List.length_filter_le (fun i => decide ((ps.getD i (0, 0)).1 = r)) (List.range ps.length)
  rw [List.length_range] at h
  exact h
theorem outs_lt {ps : List (Nat × Nat)} {r a : Nat} (h : a ∈ outsOf ps r) : a < ps.length ∧ (ps.getD a (0, 0)).1 = r := by
  unfold outsOf at h
  have z := List.mem_filter.mp h
  exact ⟨List.mem_range.mp z.1, of_decide_eq_true z.2⟩
theorem getD_mem {ps : List (Nat × Nat)} {a : Nat} (h : a < ps.length) : ps.getD a (0, 0) ∈ ps := List.mem_of_getElem? (get_of h)
theorem paths_succ (ps : List (Nat × Nat)) (h t r : Nat) : ((insOf ps r).map fun a => AF.paths ps h t (ps.getD a (0, 0)).1).sum = AF.paths ps h (t + 1) r := by
  show _ = ((AF.col ps r).map fun y => AF.paths ps h t y).sum
  rw [← ins_col, List.map_map]
  rfl
/-- the row of paths from home -/
def rowOf (n : Nat) (ps : List (Nat × Nat)) (h t : Nat) : List V := (List.range n).map fun r => V.int (AF.paths ps h t r)
theorem row_get {n : Nat} {ps : List (Nat × Nat)} {h t r : Nat} (hr : r < n) : (rowOf n ps h t)[r]? = some (.int (AF.paths ps h t r)) := by
  unfold rowOf
  rw [List.getElem?_map, List.getElem?_range hr]
  rfl
def spRounds (C : Addr) : Sp := fun vs H Q _ => ∃ (x : Addr) (n L : Nat) (ps : List (Nat × Nat)), vs = [.ref x, nv L] ∧ WebAt C H x n ps ∧ 1 ≤ L ∧ L ≤ 60 ∧ ∀ H', Same H H' → Q (.int (AF.roundsM n ps L)) H'
abbrev Nrnd : List Str := ["self", "length", "found", "home", "row", "step", "room", "arrow"]
def scRnd : Scope := { kind := .function, names := [(".0", .local), ("room", .local), ("sum", .globalImplicit), ("row", .free), ("self", .free)], isGenerator := false, isCoroutine := false, more := [] }
/-- sum([row[self.pairs[arrow][0]] for arrow in self.coming[room]]) -/
abbrev tRnd (K : PySem.W.Frag) : TE := tCB (rSum K) (tCons (tLc (iList K (tOp (rIxL K) (tFld K (tVar 0) "coming") (tVar 6))) (gName 7) tYes (tOp (rIxL K) (tVar 4) (tOp (rIxT K) (tOp (rIxT K) (tFld K (tVar 0) "pairs") (tVar 7)) (tC (.int 0)))) [7]) tNil)
section
variable {P : Program} {w : World} {K : PySem.W.Frag} {mg : Str → Option Value} {base : Heap} {f C : Addr} {fd : FuncData}
theorem sc_rounds : FnScope Nrnd ["self", "length"] (defScope (met 15)) := ⟨rfl, rfl, rfl, by decide +kernel, rfl, by decide +kernel, by decide +kernel⟩
theorem ok_rounds (B : Bn mg) (W : Wc K C) (me : Meth K C "rounds" f) (F : FnP K "rounds" "Web.rounds" (met 15) f fd) (cW : C8.Cal P w K mg base 1 "is_within" spWithin []) : C8.Met P w K mg base 2 C "rounds" (spRounds C) [] := by
  obtain ⟨tL, mL⟩ := B.length
  refine met_mk W.cl me F (fun _ _ _ _ _ _ us hl => match us, hl with | [_, _], _ => rfl) sc_rounds (fun vs H Q E h => ?_) (fun cdv A outer s H vs Q E hr h => ?_)
  · obtain ⟨x, n, L, ps, rfl, _⟩ := h
    rfl
  · obtain ⟨x, n, L, ps, rfl, hw, hL1, hL2, q⟩ := h
    have G := hw.good
    have hn := hw.hn
    have hl := hw.hl
    obtain ⟨dx, tp, ll, lc, h1, ⟨vs, hv, ha⟩, h3, ⟨cs, hcs, hca⟩⟩ := hw.ex
    refine ⟨_, pss_cons (ps_if (pt_not (pt_val (C8.pe_c cW hr (by decide) rfl (pa_cons (pv 1) (pa_cons pe_int (pa_cons (pe_glob (v := .int 60) rfl mL ⟨_, rfl⟩) pa_nil)))))) pss_never pss_nil)
      (pss_cons (ps_set (i := 2) sc_rounds.nd rfl (Or.inl rfl) pe_int)
      (pss_cons (ps_for PassesOwn.never rfl (pi_range1 rfl B.range (pa_cons (pe_fld (pv 0) rfl) pa_nil)) (pg_name (i := 3) sc_rounds.nd rfl (Or.inr rfl))
        (pss_cons (ps_set (i := 4) sc_rounds.nd rfl (Or.inr rfl) (pe_lc (own := [("room", 6)]) (g := gName 6) (tt := tYes) rfl sc_rounds.nd (pi_range1 rfl B.range (pa_cons (pe_fld (pv 0) rfl) pa_nil)) (blkOk_by (N := Nrnd) (sc := defScope (met 15)) (by decide +kernel))
            (fun _ _ _ _ _ => pg_name (i := 6) sc_rounds.nd rfl (Or.inl rfl)) (fun _ _ _ _ _ => pts_nil) (fun _ _ _ _ _ => pe_callTy (T := "int") call_int1 (by rfl) B.int (by decide +kernel) (pa_cons (pe_cmpR op_eq (pv 6) (pv 3) (nomark _)) pa_nil))))
        (pss_cons (ps_for PassesOwn.never rfl (pi_range1 rfl B.range (pa_cons (pv 1) pa_nil)) (pg_name (i := 5) sc_rounds.nd rfl (Or.inl rfl))
          (pss_one (ps_set (i := 4) sc_rounds.nd rfl (Or.inr rfl) (pe_lc (own := [("room", 6)]) (g := gName 6) (tt := tYes) (te := tRnd K) rfl sc_rounds.nd (pi_range1 rfl B.range (pa_cons (pe_fld (pv 0) rfl) pa_nil)) (blkOk_by (N := Nrnd) (sc := defScope (met 15)) (by decide +kernel))
            (fun _ _ _ _ _ => pg_name (i := 6) sc_rounds.nd rfl (Or.inl rfl)) (fun _ _ _ _ _ => pts_nil)
            (fun _ _ _ _ _ => pe_callB (cr_sum rfl) (by rfl) B.sum (by decide +kernel) (pa_cons (pe_lc (own := [("arrow", 7)]) rfl sc_rounds.nd (pi_list (pe_ix ix_list (pe_fld (pv 0) rfl) (pv 6) (fun _ _ => rfl))) (blkOk_by (N := Nrnd) (sc := relS scRnd (defScope (met 15))) (by decide +kernel))
              (fun _ _ _ _ _ => pg_name (i := 7) sc_rounds.nd rfl (Or.inl rfl)) (fun _ _ _ _ _ => pts_nil)
              (fun _ _ _ _ _ => pe_ix ix_list (pv 4) (pe_ix ix_tup (pe_ix ix_tup (pe_fld (pv 0) rfl) (pv 7) (fun _ _ => rfl)) pe_int (fun _ _ => rfl)) (fun _ _ => rfl))) pa_nil))))))
        (pss_one (ps_aug (i := 2) sc_rounds.nd rfl (Or.inl rfl) (pe_ix ix_list (pv 4) (pv 3) (fun _ _ => rfl)) ip_add)))))
      (pss_one (ps_ret (pv 2))))), ?_⟩
    refine ⟨_, rfl, _, _, _, rfl, true, ?_, iteF ?_⟩
    · rw [decide_eq_true (by omega), decide_eq_true (by omega)]
      rfl
    -- for home in range(self.size)
    refine ⟨_, rfl, x, C, dx, _, _, rfl, h1, W.cl, W.nS, flds_size _ _ _ _, (n : Int), rfl, by omega, by omega, for_it (walk_rangeN (n := n))
      (fun i σ H1 => ∃ v3 v4 v5 : Option V, σ = [some (.ref x), some (nv L), some (.int (AF.sm i fun h => AF.paths ps h L h)), v3, v4, v5, none, none] ∧ Same H H1) ⟨none, none, none, rfl, Same.refl _⟩ (fun _ _ _ _ _ => trivial) ?_ ?_⟩
    · rintro h xx σ H1 H2 hh ⟨v3, v4, v5, rfl, s1⟩ ⟨rfl, rfl⟩
      -- row = [int(room == home) for room in range(self.size)]
      refine ⟨_, rfl, x, C, dx, _, _, rfl, s1 x _ h1, W.cl, W.nS, flds_size _ _ _ _, (n : Int), rfl, by omega, by omega, fun D hD => lc_all (walk_rangeN (n := n)) hD (fun r y _ => y = .int (AF.paths ps h 0 r)) (fun _ _ _ _ _ h => h) (fun _ _ => trivial) (by omega) gName_mono ?_ ?_⟩
      · rintro r xx H' H'' ys hy hr s3 ⟨rfl, rfl⟩ Ky hk
        refine ⟨rfl, _, rfl, _, rfl, rfl, .inr ⟨_, rfl, hk _ _ (Same.refl _) ?_⟩⟩
        show V.int (if decide (nv r = nv h) = true then 1 else 0) = V.int (if r = h then 1 else 0)
        by_cases e : r = h
        · rw [if_pos e, if_pos (decide_eq_true (by rw [e]))]
        · rw [if_neg e, if_neg (fun z => e (by have z := of_decide_eq_true z; injection z with z; omega))]
      · intro H3 ys s3 hy hA
        have eys : ys = rowOf n ps h 0 := A2.eqmap (f := fun r => V.int (AF.paths ps h 0 r)) hA
        subst eys
        -- for step in range(length)
        refine ⟨_, rfl, (L : Int), rfl, by omega, by omega, for_it (walk_rangeN (n := L)) (fun t σ H4 => ∃ (p : Addr) (v5 : Option V), σ = [some (.ref x), some (nv L), some (.int (AF.sm h fun h => AF.paths ps h L h)), some (nv h), some (.ref p), v5, none, none] ∧ Same H3 H4 ∧ H4 p = some (.lst (rowOf n ps h t)))
          ⟨D, v5, rfl, Same.refl _, hy⟩ (fun _ _ _ _ _ => trivial) ?_ ?_⟩
        · rintro t xx σ H4 H5 ht ⟨p, v6, rfl, s4, hp⟩ ⟨rfl, rfl⟩
          have c4 : Same H H5 := (s1.trans s3).trans s4
          refine ⟨_, rfl, x, C, dx, _, _, rfl, c4 x _ h1, W.cl, W.nS, flds_size _ _ _ _, (n : Int), rfl, by omega, by omega, fun D2 hD2 => lc_all (walk_rangeN (n := n)) hD2 (fun r y _ => y = .int (AF.paths ps h (t + 1) r)) (fun _ _ _ _ _ h => h) (fun _ _ => trivial) (by omega) gName_mono ?_ ?_⟩
          · rintro r xx H' H'' ys hy hr s5 ⟨rfl, rfl⟩ Ky hk
            have c5 : Same H H'' := c4.trans s5
            obtain ⟨l, hl, hl2⟩ := row_at hca hr
            have hl3 : NL H'' l (insOf ps r) := hl2.mono c5
            refine ⟨rfl, ?_⟩
            refine ⟨_, rfl, x, C, dx, _, _, rfl, c5 x _ h1, W.cl, W.nC, flds_coming _ _ _ _, _, rfl, lc, cs, _, _, rfl, rfl, sq_of (c5 lc _ hcs), atI_nat hl, l, rfl, ⟨_, sq_of hl3⟩, fun D3 hD3 => ?_⟩
            refine lc_all (walk_list (K := K) (a := l) (xs := (insOf ps r).map nv)) hD3 (fun i y _ => y = .int (AF.paths ps h t (ps.getD ((insOf ps r).getD i 0) (0, 0)).1)) (fun _ _ _ _ _ h => h) (fun H6 s6 => sq_of (s6 l _ hl3)) ?_ gName_mono ?_ ?_
            · rw [List.length_map]
              exact Nat.le_trans (ins_len ps r) (by omega)
            · rintro i xx H6 H7 ys2 hy2 hi s6 ⟨rfl, hxx⟩ Ky2 hk2
              rw [List.getElem?_map] at hxx
              rw [List.length_map] at hi
              have ea : xx = nv ((insOf ps r).getD i 0) := by
                rw [List.getElem?_eq_getElem hi] at hxx
                rw [List.getD_eq_getElem?_getD, List.getElem?_eq_getElem hi]
                exact (Option.some.inj hxx).symm
              subst ea
              have hm : (insOf ps r).getD i 0 ∈ insOf ps r := by
                rw [List.getD_eq_getElem?_getD, List.getElem?_eq_getElem hi]
                exact List.getElem_mem hi
              obtain ⟨a1, a2⟩ := ins_lt hm
              have c6 : Same H H7 := c5.trans s6
              obtain ⟨tt, ett, htt⟩ := arrow_at ha a1
              refine ⟨rfl, _, rfl, _, rfl, x, C, dx, _, _, rfl, c6 x _ h1, W.cl, W.nP, flds_pairs _ _ _ _, _, rfl, tp, vs, _, _, rfl, rfl, st_of (c6 tp _ hv), atI_nat ett, tt, _, _, _, rfl, rfl, st_of (c6 tt _ htt), atI_nat (j := 0) rfl, p, _, _, _, rfl, rfl, sq_of ((s5.trans s6) p _ hp), atI_nat (row_get ?_), hk2 _ _ (Same.refl _) rfl⟩
              exact (G.2.1 _ (getD_mem a1)).1
            · intro H6 ys2 s6 hy2 hA2
              have e2 : ys2 = ((insOf ps r).map fun a => AF.paths ps h t (ps.getD a (0, 0)).1).map V.int := by
                rw [List.length_map] at hA2
                rw [A2.eqmap (f := fun i => V.int (AF.paths ps h t (ps.getD ((insOf ps r).getD i 0) (0, 0)).1)) hA2, List.map_map]
                exact map_getD (insOf ps r) 0 fun a => V.int (AF.paths ps h t (ps.getD a (0, 0)).1)
              subst e2
              exact ⟨D3, _, rfl, sq_of hy2, hk _ _ s6 (congrArg V.int (paths_succ ps h t r))⟩
          · intro H6 ys s5 hy hA
            have eys : ys = rowOf n ps h (t + 1) := A2.eqmap (f := fun r => V.int (AF.paths ps h (t + 1) r)) hA
            subst eys
            exact ⟨D2, _, rfl, s4.trans s5, hy⟩
        · rintro σ H4 ⟨p, v6, rfl, s4, hp⟩
          -- found += row[home]
          refine ⟨_, rfl, _, rfl, _, rfl, p, _, _, _, rfl, rfl, sq_of hp, atI_nat (row_get hh), _, _, rfl, rfl, some (nv h), some (.ref p), v6, ?_, (s1.trans s3).trans s4⟩
          rw [AF.sm_succ]
          rfl
    · rintro σ H1 ⟨v3, v4, v5, rfl, s1⟩
      exact ⟨_, rfl, q _ s1⟩
end
end AW

set_option maxRecDepth 100000
set_option maxHeartbeats 4000000
namespace AW
open PySem PySem.Spec PyProof.Rows L2
/-! column, need_fold -/
theorem back_nat {ns' : List Int} {l : List Nat} (h : ns'.Perm (l.map fun n : Nat => (n : Int))) (hs : ns'.Pairwise (· ≤ ·)) : ∃ L : List Nat, ns' = L.map (fun n : Nat => (n : Int)) ∧ L.Perm l ∧ L.Pairwise (· ≤ ·) := by
  have e : ns' = (ns'.map Int.toNat).map (fun n : Nat => (n : Int)) := by
    rw [List.map_map]
    have q : ns'.map ((fun n : Nat => (n : Int)) ∘ Int.toNat) = ns'.map id := by
      apply List.map_congr_left
      intro z hz
      obtain ⟨n, _, rfl⟩ := List.mem_map.mp (h.mem_iff.mp hz)
      rfl
    rw [q, List.map_id]
  refine ⟨ns'.map Int.toNat, e, ?_, ?_⟩
  · have z := h.map Int.toNat
    rw [List.map_map] at z
    have q : l.map (Int.toNat ∘ fun n : Nat => (n : Int)) = l.map id := by
      apply List.map_congr_left
      intro n _
      rfl
    rw [q, List.map_id] at z
    exact z
  · rw [List.pairwise_map]
    refine hs.imp ?_
    intro a b hab
    omega
/-- two sorted lists are one just where they are one but for order -/
theorem sorted_eq {a b l m : List Nat} (h1 : a.Perm l) (h2 : b.Perm m) (s1 : a.Pairwise (· ≤ ·)) (s2 : b.Pairwise (· ≤ ·)) : a = b ↔ l.Perm m := by
  constructor
  · intro e
    rw [e] at h1
    exact h1.symm.trans h2
  · intro e
    exact List.Perm.eq_of_pairwise (fun x y _ _ h1 h2 => Nat.le_antisymm h1 h2) s1 s2 ((h1.trans e).trans h2.symm)
def spCol (C : Addr) : Sp := fun vs H Q _ => ∃ (x : Addr) (n r : Nat) (ps : List (Nat × Nat)), vs = [.ref x, nv r] ∧ WebAt C H x n ps ∧ r < n ∧
  ∀ (L : List Nat) p H', H p = none → Same H H' → L.Perm (AF.col ps r) → L.Pairwise (· ≤ ·) → NL H' p L → Q (.ref p) H'
def spNeedFold (C : Addr) : Sp := fun vs H Q _ => ∃ (x : Addr) (n a b : Nat) (ps : List (Nat × Nat)), vs = [.ref x, nv a, nv b] ∧ WebAt C H x n ps ∧ AF.CanFold n ps a b ∧ ∀ H', Same H H' → Q .non H'
section
variable {P : Program} {w : World} {K : PySem.W.Frag} {mg : Str → Option Value} {base : Heap} {f C : Addr} {fd : FuncData}
theorem sc_col : FnScope ["web", "room", "arrow"] ["web", "room"] (defScope (top 20)) := ⟨rfl, rfl, rfl, by decide +kernel, rfl, by decide +kernel, by decide +kernel⟩
theorem ok_col (B : Bn mg) (F : FnP K "column" "column" (top 20) f fd) (hm : mg "column" = some (.ref f)) (cB : C8.Met P w K mg base 3 C "begin" (spBegin C) []) (cI : C8.Met P w K mg base 3 C "ins" (spIns C) []) : C8.Cal P w K mg base 4 "column" (spCol C) [] := by
  refine cal_mk F hm (fun _ _ _ _ _ _ us hl => match us, hl with | [_, _], _ => rfl) sc_col (fun vs H Q E h => ?_) (fun cdv A outer s H vs Q E hr h => ?_)
  · obtain ⟨x, n, r, ps, rfl, _⟩ := h
    rfl
  · obtain ⟨x, n, r, ps, rfl, hw, hr', q⟩ := h
    obtain ⟨dx, tp, ll, lc, h1, _⟩ := hw.ex
    refine ⟨_, pss_one (ps_ret (pe_callB cr_sortedI (by rfl) B.sorted (by decide +kernel) (pa_cons (pe_lc (own := [("arrow", 2)]) (g := gName 2) (tt := tYes) rfl sc_col.nd (pi_list (C8.pe_mt cI hr (by decide) (pv 0) (pa_cons (pv 1) pa_nil)))
      (blkOk_by (N := ["web", "room", "arrow"]) (sc := defScope (top 20)) (by decide +kernel)) (fun _ _ _ _ _ => pg_name (i := 2) sc_col.nd rfl (Or.inl rfl)) (fun _ _ _ _ _ => pts_nil) (fun _ _ _ _ _ => C8.pe_mt cB hr (by decide) (pv 0) (pa_cons (pv 2) pa_nil))) pa_nil))), ?_⟩
    refine ⟨_, rfl, x, dx, _, rfl, h1, flds_no _ _ _ _ (by decide +kernel) (by decide +kernel) (by decide +kernel) (by decide +kernel), _, rfl, x, n, r, ps, rfl, hw, hr', fun l H1 hl s1 hN => ?_⟩
    refine ⟨l, rfl, ⟨_, sq_of hN⟩, fun D hD => ?_⟩
    refine lc_all (walk_list (K := K) (a := l) (xs := (insOf ps r).map nv)) hD (fun i y _ => y = nv (ps.getD ((insOf ps r).getD i 0) (0, 0)).1) (fun _ _ _ _ _ h => h) (fun H6 s6 => sq_of (s6 l _ hN)) ?_ gName_mono ?_ ?_
    · rw [List.length_map]
      have := hw.hl
      exact Nat.le_trans (ins_len ps r) (by omega)
    · rintro i xx H6 H7 ys2 hy2 hi s6 ⟨rfl, hxx⟩ Ky2 hk2
      rw [List.getElem?_map] at hxx
      rw [List.length_map] at hi
      have ea : xx = nv ((insOf ps r).getD i 0) := by
        rw [List.getElem?_eq_getElem hi] at hxx
        rw [List.getD_eq_getElem?_getD, List.getElem?_eq_getElem hi]
        exact (Option.some.inj hxx).symm
      subst ea
      have hm : (insOf ps r).getD i 0 ∈ insOf ps r := by
        rw [List.getD_eq_getElem?_getD, List.getElem?_eq_getElem hi]
        exact List.getElem_mem hi
      obtain ⟨a1, a2⟩ := ins_lt hm
      have c6 : Same H H7 := s1.trans s6
      exact ⟨rfl, _, rfl, x, dx, _, rfl, c6 x _ h1, flds_no _ _ _ _ (by decide +kernel) (by decide +kernel) (by decide +kernel) (by decide +kernel), _, rfl, x, n, _, ps, rfl, hw.mono c6, a1, hk2 _ _ (Same.refl _) rfl⟩
    · intro H6 ys2 s6 hy2 hA2
      have e2 : ys2 = ((AF.col ps r).map fun n : Nat => (n : Int)).map V.int := by
        rw [List.length_map] at hA2
        rw [A2.eqmap (f := fun i => nv (ps.getD ((insOf ps r).getD i 0) (0, 0)).1) hA2, ← ins_col, List.map_map, List.map_map]
        exact map_getD (insOf ps r) 0 fun a => nv (ps.getD a (0, 0)).1
      subst e2
      refine ⟨D, _, rfl, sq_of hy2, fun ns' p hp hs hnp => ?_⟩
      obtain ⟨L, rfl, pL, sL⟩ := back_nat hp hs
      refine q L p _ ((s1.trans s6).free hnp) ((s1.trans s6).trans (same_new hnp)) pL sL ?_
      show upd H6 p _ p = _
      rw [upd_same, List.map_map]
      rfl
theorem sc_needf : FnScope ["web", "one", "other"] ["web", "one", "other"] (defScope (top 22)) := ⟨rfl, rfl, rfl, by decide +kernel, rfl, by decide +kernel, by decide +kernel⟩
theorem ok_needf (F : FnP K "need_fold" "need_fold" (top 22) f fd) (hm : mg "need_fold" = some (.ref f)) (cN : C8.Met P w K mg base 2 C "need_room" (spNeed C) []) (cC : C8.Cal P w K mg base 4 "column" (spCol C) []) : C8.Cal P w K mg base 5 "need_fold" (spNeedFold C) [] := by
  refine cal_mk F hm (fun _ _ _ _ _ _ us hl => match us, hl with | [_, _, _], _ => rfl) sc_needf (fun vs H Q E h => ?_) (fun cdv A outer s H vs Q E hr h => ?_)
  · obtain ⟨x, n, a, b, ps, rfl, _⟩ := h
    rfl
  · obtain ⟨x, n, a, b, ps, rfl, hw, hc, q⟩ := h
    obtain ⟨dx, tp, ll, lc, h1, _⟩ := hw.ex
    obtain ⟨hab, hb, hp⟩ := hc
    refine ⟨_, pss_cons (ps_expr (C8.pe_mt cN hr (by decide) (pv 0) (pa_cons (pv 1) pa_nil))) (pss_cons (ps_expr (C8.pe_mt cN hr (by decide) (pv 0) (pa_cons (pv 2) pa_nil)))
      (pss_one (ps_if (PW.pt (pw_or (pt_cmpR op_ge (pv 1) (pv 2) (nomark _)) (pw_or1 (pt_cmpR (op_neD hr.units) (C8.pe_c cC hr (by decide) rfl (pa_cons (pv 0) (pa_cons (pv 1) pa_nil))) (C8.pe_c cC hr (by decide) rfl (pa_cons (pv 0) (pa_cons (pv 2) pa_nil))) (nomark _))))) pss_never pss_nil))), ?_⟩
    refine ⟨_, rfl, x, dx, _, rfl, h1, flds_no _ _ _ _ (by decide +kernel) (by decide +kernel) (by decide +kernel) (by decide +kernel), _, rfl, x, n, a, ps, rfl, hw, by omega, ?_⟩
    refine ⟨_, rfl, x, dx, _, rfl, h1, flds_no _ _ _ _ (by decide +kernel) (by decide +kernel) (by decide +kernel) (by decide +kernel), _, rfl, x, n, b, ps, rfl, hw, hb, ?_⟩
    refine ⟨_, rfl, _, rfl, _, _, rfl, rfl, _, rfl, ?_⟩
    have e : decide ((b : Int) ≤ (a : Int)) = false := decide_eq_false (by omega)
    rw [e]
    refine iteF ⟨_, rfl, _, rfl, x, n, a, ps, rfl, hw, by omega, fun L1 p1 H1 hp1 s1 pL1 sL1 hN1 => ?_⟩
    refine ⟨_, rfl, _, rfl, x, n, b, ps, rfl, hw.mono s1, hb, fun L2' p2 H2 hp2 s2 pL2 sL2 hN2 => ?_⟩
    have eL : L1 = L2' := (sorted_eq pL1 pL2 sL1 sL2).mpr hp
    subst eL
    refine ⟨_, _, dp_N (hN1.mono s2), dp_N hN2, sh_N _, sh_N _, _, rfl, ?_⟩
    rw [eqv_N, decide_eq_true rfl]
    exact iteF (q _ (s1.trans s2))
end
end AW

set_option maxRecDepth 100000
set_option maxHeartbeats 4000000
namespace AW
open PySem PySem.Spec PyProof.Rows L2
/-! folds_of -/
theorem cut_from (xs : List V) (k : Nat) : cutV xs (some (k : Int)) none = xs.drop k := by
  unfold cutV
  rw [HT.sIx_nat, HT.sIx_none]
  by_cases h : k ≤ xs.length
  · rw [Nat.min_eq_left h]
    exact List.take_of_length_le (by rw [List.length_drop]; exact Nat.le_refl _)
  · rw [Nat.min_eq_right (by omega), List.drop_eq_nil_of_le (Nat.le_refl _), List.drop_eq_nil_of_le (by omega), List.take_nil]
theorem rgV0 (n : Nat) : rgV 0 (n : Int) = (List.range n).map nv := by
  unfold rgV
  have e : ((n : Int) - 0).toNat = n := by omega
  rw [e]
  apply List.map_congr_left
  intro i _
  show V.int (0 + (i : Int)) = V.int (i : Int)
  rw [Int.zero_add]
/-- the sorted column of a room, as a list in the heap -/
def IsCol (ps : List (Nat × Nat)) (r : Nat) (v : V) (H : Hp) : Prop := ∃ L : List Nat, L.Perm (AF.col ps r) ∧ L.Pairwise (· ≤ ·) ∧ IsN H L v
theorem IsCol.mono {ps : List (Nat × Nat)} {r : Nat} {v : V} {H H' : Hp} (e : Same H H') (h : IsCol ps r v H) : IsCol ps r v H' := by
  obtain ⟨L, h1, h2, h3⟩ := h
  exact ⟨L, h1, h2, h3.mono e⟩
def spFolds (C : Addr) : Sp := fun vs H Q _ => ∃ (x : Addr) (n : Nat) (ps : List (Nat × Nat)), vs = [.ref x] ∧ WebAt C H x n ps ∧
  ∀ (qs : List (Nat × Nat)) p H', H p = none → Same H H' → PL H' p qs → (∀ q ∈ qs, AF.CanFold n ps q.1 q.2) → (qs = [] → AF.NoFold n ps) → qs.length ≤ 100000 → Q (.ref p) H'
abbrev Nfo : List Str := ["web", "columns", "some", "room", "one", "other"]
abbrev wSome (K : PySem.W.Frag) : TI := iList K (tSl (rSlL K) (tVar 2) (tPart (tOp (rI0 fun i j => .int (i + j)) (tVar 4) (tC (.int 1)))) tNoPart)
abbrev tEqc (K : PySem.W.Frag) : TT := tTest (tOp (rEqD K) (tOp (rIxL K) (tVar 1) (tVar 4)) (tOp (rIxL K) (tVar 1) (tVar 5)))
section
variable {P : Program} {w : World} {K : PySem.W.Frag} {mg : Str → Option Value} {base : Heap} {f C : Addr} {fd : FuncData}
theorem sc_folds : FnScope Nfo ["web"] (defScope (top 21)) := ⟨rfl, rfl, rfl, by decide +kernel, rfl, by decide +kernel, by decide +kernel⟩
theorem ok_folds (B : Bn mg) (F : FnP K "folds_of" "folds_of" (top 21) f fd) (hm : mg "folds_of" = some (.ref f)) (cR : C8.Met P w K mg base 1 C "rooms" (spRooms C) []) (cC : C8.Cal P w K mg base 4 "column" (spCol C) []) : C8.Cal P w K mg base 5 "folds_of" (spFolds C) [] := by
  refine cal_mk F hm (fun _ _ _ _ _ _ us hl => match us, hl with | [_], _ => rfl) sc_folds (fun vs H Q E h => ?_) (fun cdv A outer s H vs Q E hr h => ?_)
  · obtain ⟨x, n, ps, rfl, _⟩ := h
    rfl
  · obtain ⟨x, n, ps, rfl, hw, q⟩ := h
    obtain ⟨dx, tp, ll, lc, h1, _⟩ := hw.ex
    have hn := hw.hn
    refine ⟨_, pss_cons (ps_set (i := 1) sc_folds.nd rfl (Or.inr rfl) (pe_lc (own := [("room", 3)]) (g := gName 3) (tt := tYes) rfl sc_folds.nd (pi_range1 rfl B.range (pa_cons (C8.pe_mt0 cR hr (by decide) (pv 0)) pa_nil)) (blkOk_by (N := Nfo) (sc := defScope (top 21)) (by decide +kernel))
        (fun _ _ _ _ _ => pg_name (i := 3) sc_folds.nd rfl (Or.inl rfl)) (fun _ _ _ _ _ => pts_nil) (fun _ _ _ _ _ => C8.pe_c cC hr (by decide) rfl (pa_cons (pv 0) (pa_cons (pv 3) pa_nil)))))
      (pss_cons (ps_set (i := 2) sc_folds.nd rfl (Or.inr rfl) (pe_listRg rfl (by rfl) B.list (prg_1 (by rfl) B.range (C8.pe_mt0 cR hr (by decide) (pv 0)))))
      (pss_one (ps_ret (pe_lc2 (own := [("one", 4), ("other", 5)]) (vs1 := [5]) (g := gName 4) (tt := tYes) (wi1 := wSome K) (g1 := gName 5) (tt1 := tEqc K) (te := tTup (tCons (tVar 4) (tCons (tVar 5) tNil))) rfl sc_folds.nd (pi_list (pv 2)) (blkOk_by (N := Nfo) (sc := defScope (top 21)) (by decide +kernel)) (by decide)
        (fun _ _ _ _ _ => pg_name (i := 4) sc_folds.nd rfl (Or.inl rfl)) (fun _ _ _ _ _ => pts_nil) (fun _ _ _ _ _ => pi_list (pe_slice sl_list (pv 2) (po_some (pe_op op_add (pv 4) pe_int)) po_none))
        (fun _ _ _ _ _ => pg_name (i := 5) sc_folds.nd rfl (Or.inl rfl)) (fun _ _ _ _ _ => pts_one (pt_cmpR (op_eqD hr.units) (pe_ix ix_list (pv 1) (pv 4) (fun _ _ => rfl)) (pe_ix ix_list (pv 1) (pv 5) (fun _ _ => rfl)) (nomark _)))
        (fun _ _ _ _ _ => pe_tup (pa_cons (pv 4) (pa_cons (pv 5) pa_nil))))))), ?_⟩
    -- columns = [column(web, room) for room in range(web.rooms())]
    refine ⟨_, rfl, x, dx, _, rfl, h1, flds_no _ _ _ _ (by decide +kernel) (by decide +kernel) (by decide +kernel) (by decide +kernel), x, n, ps, rfl, hw, (n : Int), rfl, by omega, by omega, fun cp hcp => lc_all (walk_rangeN (n := n)) hcp (fun i y H' => IsCol ps i y H') (fun _ _ _ _ => IsCol.mono) (fun _ _ => trivial) (by omega) gName_mono ?_ ?_⟩
    · rintro i xx H' H'' ys hy hi s1 ⟨rfl, rfl⟩ Ky hk
      refine ⟨rfl, _, rfl, _, rfl, x, n, i, ps, rfl, hw.mono s1, hi, fun L l H3 hl s3 pL sL hN => hk _ _ s3 ⟨L, pL, sL, l, rfl, ?_⟩⟩
      show ers cp H3 l = _
      rw [ers_ne (fun z => by rw [z, hy] at hl; cases hl)]
      exact hN
    · intro H1 cs s1 hcs hA
      have hx1 := s1 x _ h1
      -- some = list(range(web.rooms()))
      refine ⟨_, rfl, x, dx, _, rfl, hx1, flds_no _ _ _ _ (by decide +kernel) (by decide +kernel) (by decide +kernel) (by decide +kernel), x, n, ps, rfl, hw.mono s1, (n : Int), rfl, RgOk.of_le (by omega) (by omega) (by omega) (by omega), fun sp hsp0 => ?_⟩
      rw [rgV0]
      have s2 : Same H1 (upd H1 sp (.lst ((List.range n).map nv))) := same_new hsp0
      have hsp : (upd H1 sp (.lst ((List.range n).map nv))) sp = some (.lst ((List.range n).map nv)) := upd_same
      generalize upd H1 sp (.lst ((List.range n).map nv)) = H2 at s2 hsp ⊢
      have hcs2 := s2 cp _ hcs
      have hA2 : A2 (fun i y => IsCol ps i y H2) (List.range n) cs := hA.mono fun _ _ => IsCol.mono s2
      have hlr : ((List.range n).map nv).length = n := by rw [List.length_map, List.length_range]
      have gx : ∀ i, i < n → ((List.range n).map nv)[i]? = some (nv i) := fun i hi => by
        rw [List.getElem?_map, List.getElem?_range hi]
        rfl
      have gc : ∀ i, i < n → ∃ v, cs[i]? = some v ∧ IsCol ps i v H2 := fun i hi => by
        obtain ⟨b, e, r⟩ := hA2.get (List.getElem?_range hi)
        exact ⟨b, e, r⟩
      -- the two loops
      refine ⟨_, rfl, sp, rfl, ⟨_, sq_of hsp⟩, fun D hD => ?_⟩
      refine ⟨fun i m H' => m = n - i ∧ i ≤ n ∧ Same H2 H' ∧ ∃ (qs : List (Nat × Nat)) (ys : List V), H' D = some (.lst ys) ∧ A2 (IsP (ers D H')) qs ys ∧ (∀ q ∈ qs, AF.CanFold n ps q.1 q.2) ∧ (∀ a b, a < i → a < b → b < n → (AF.col ps a).Perm (AF.col ps b) → (a, b) ∈ qs) ∧ qs.length ≤ i * n,
        ⟨n, rfl, Nat.zero_le _, same_new hD, [], [], upd_same, .nil, (fun _ h => by cases h), (fun _ _ h => by omega), Nat.zero_le _⟩, ?_⟩
      rintro i m H3 ⟨rfl, hi, s3, qs, ys, hy, hQ, hq1, hq2, hql⟩
      by_cases hlt : i < n
      · refine .inr ⟨⟨_, nv i, sq_of (s3 sp _ hsp), gx i hlt⟩, _, fun H' p' => ⟨n - (i + 1), by omega, rfl, hlt, p'⟩, ?_⟩
        rintro xx H4 ⟨rfl, hxx⟩
        cases Option.some.inj ((hxx _ (sq_of (s3 sp _ hsp))).symm.trans (gx i hlt))
        refine ⟨rfl, ?_⟩
        unfold tYes
        refine iteT ?_
        refine ⟨_, rfl, _, rfl, _, _, rfl, rfl, _, rfl, sp, _, rfl, sq_of (s3 sp _ hsp), fun p4 hp4 => ?_⟩
        have ek : ((i : Int) + 1) = ((i + 1 : Nat) : Int) := by omega
        rw [ek, cut_from]
        have hDp : D ≠ p4 := ne_of_none hy hp4
        refine ⟨p4, rfl, ⟨_, sq_of upd_same⟩, ?_⟩
        have s4 : Same H4 (upd H4 p4 (.lst (((List.range n).map nv).drop (i + 1)))) := same_new hp4
        refine ⟨fun j k H' => k = (n - (i + 1)) - j ∧ j ≤ n - (i + 1) ∧ Same H2 H' ∧ H' p4 = some (.lst (((List.range n).map nv).drop (i + 1))) ∧ ∃ (qs : List (Nat × Nat)) (ys : List V), H' D = some (.lst ys) ∧ A2 (IsP (ers D H')) qs ys ∧ (∀ q ∈ qs, AF.CanFold n ps q.1 q.2) ∧
            (∀ a b, (a < i ∨ (a = i ∧ b < i + 1 + j)) → a < b → b < n → (AF.col ps a).Perm (AF.col ps b) → (a, b) ∈ qs) ∧ qs.length ≤ i * n + j,
          ⟨n - (i + 1), rfl, Nat.zero_le _, s3.trans s4, upd_same, qs, ys, s4 D _ hy, hQ.mono fun _ _ => IsP.mono (ers_mono s4), hq1, (fun a b h => ?_), by omega⟩, ?_⟩
        · rcases h with h | ⟨h1, h2⟩
          · exact hq2 a b h
          · intro h3
            omega
        rintro j k H5 ⟨rfl, hj, s5, hp5, qs5, ys5, hy5, hQ5, hr1, hr2, hrl⟩
        have hdl : (((List.range n).map nv).drop (i + 1)).length = n - (i + 1) := by rw [List.length_drop, hlr]
        by_cases hjt : j < n - (i + 1)
        · have gj : (((List.range n).map nv).drop (i + 1))[j]? = some (nv (i + 1 + j)) := by
            rw [List.getElem?_drop]
            exact gx (i + 1 + j) (by omega)
          refine .inr ⟨⟨_, nv (i + 1 + j), sq_of hp5, gj⟩, _, fun H' p' => ⟨(n - (i + 1)) - (j + 1), by omega, rfl, hjt, p'⟩, ?_⟩
          rintro xx H6 ⟨rfl, hxx⟩
          cases Option.some.inj ((hxx _ (sq_of hp5)).symm.trans gj)
          obtain ⟨v1, ev1, L1, pL1, sL1, l1, rfl, hN1⟩ := gc i hlt
          obtain ⟨v2, ev2, L2', pL2, sL2, l2, rfl, hN2⟩ := gc (i + 1 + j) (by omega)
          refine ⟨rfl, ⟨_, rfl, _, rfl, cp, cs, _, _, rfl, rfl, sq_of (s5 cp _ hcs2), atI_nat ev1, _, rfl, _, rfl, cp, cs, _, _, rfl, rfl, sq_of (s5 cp _ hcs2), atI_nat ev2, _, _, dp_N (hN1.mono s5), dp_N (hN2.mono s5), sh_N _, sh_N _, _, rfl, ?_⟩⟩
          rw [eqv_N]
          have hb := sorted_eq pL1 pL2 sL1 sL2
          by_cases hc : L1 = L2'
          · rw [decide_eq_true hc]
            refine iteT ⟨_, rfl, _, rfl, (by show 2 ≤ sizeLine; decide), fun tq htq => ⟨ys5, same_new htq D _ hy5, ?_, ?_⟩⟩
            · have := hQ5.len
              exact sz_lt (by
                have h1 : i * n ≤ 100 * 100 := Nat.mul_le_mul (by omega) (by omega)
                omega)
            · have hDt : tq ≠ D := fun z => by rw [z, hy5] at htq; cases htq
              have sD : Same (ers D H6) (ers D (upd (upd H6 tq (.tup [nv i, nv (i + 1 + j)])) D (.lst (ys5 ++ [.ref tq])))) := fun b o e => ers_upd b o (ers_mono (same_new htq) b o e)
              refine ⟨same_mut (s5.trans (same_new htq)) hD, ?_, qs5 ++ [(i, i + 1 + j)], ys5 ++ [.ref tq], upd_same, (hQ5.mono fun _ _ => IsP.mono sD).snoc ⟨tq, rfl, ?_⟩, ?_, ?_, ?_⟩
              · rw [upd_ne hDp.symm, upd_ne (ne_of_none hp5 htq)]
                exact hp5
              · rw [ers_ne hDt, upd_ne hDt, upd_same]
              · intro q hq
                rcases List.mem_append.mp hq with h | h
                · exact hr1 q h
                · rw [List.mem_singleton.mp h]
                  exact ⟨by show i < i + 1 + j; omega, by show i + 1 + j < n; omega, hb.mp hc⟩
              · intro a b h h1 h2 h3
                by_cases hab : a = i ∧ b = i + 1 + j
                · rw [hab.1, hab.2]
                  exact List.mem_append_right _ (List.mem_singleton.mpr rfl)
                · exact List.mem_append_left _ (hr2 a b (by omega) h1 h2 h3)
              · rw [List.length_append]
                show qs5.length + 1 ≤ _
                omega
          · rw [decide_eq_false hc]
            refine iteF ⟨s5, hp5, qs5, ys5, hy5, hQ5, hr1, ?_, by omega⟩
            intro a b h h1 h2 h3
            by_cases hab : a = i ∧ b = i + 1 + j
            · rw [hab.1, hab.2] at h3
              exact absurd (hb.mpr h3) hc
            · exact hr2 a b (by omega) h1 h2 h3
        · have ej : j = n - (i + 1) := by omega
          subst ej
          refine .inl ⟨⟨_, sq_of hp5, by rw [hdl]; exact Nat.le_refl _⟩, s5, qs5, ys5, hy5, hQ5, hr1, ?_, ?_⟩
          · intro a b h h1 h2 h3
            exact hr2 a b (by omega) h1 h2 h3
          · have e : (i + 1) * n = i * n + n := Nat.succ_mul i n
            omega
      · have ei : i = n := by omega
        subst ei
        refine .inl ⟨⟨_, sq_of (s3 sp _ hsp), by rw [hlr]; exact Nat.le_refl _⟩, ?_⟩
        refine q qs D _ (((s1.trans s2)).free hD) ((s1.trans s2).trans s3) ⟨ys, hy, hQ.mono fun _ _ => IsP.mono ers_same⟩ hq1 (fun e a b h1 h2 h3 => ?_) ?_
        · have := hq2 a b (by omega) h1 h2 h3
          rw [e] at this
          cases this
        · have h1 : i * i ≤ 100 * 100 := Nat.mul_le_mul (by omega) (by omega)
          omega
end
end AW

set_option maxRecDepth 100000
set_option maxHeartbeats 4000000
namespace AW
open PySem PySem.Spec PyProof.Rows L2
/-! partners -/
theorem filter_getD {α β : Type} (xs : List α) (d : α) (g : α → Bool) (h : α → β) : ((List.range xs.length).filter fun k => g (xs.getD k d)).map (fun k => h (xs.getD k d)) = (xs.filter g).map h := by
  have e : xs = (List.range xs.length).map fun k => xs.getD k d := by
    have z := map_getD xs d fun a : α => a
    rw [List.map_id'] at z
    exact z.symm
  have e2 : xs.filter g = ((List.range xs.length).map fun k => xs.getD k d).filter g := by rw [← e]
  rw [e2, List.filter_map, List.map_map]
  rfl
/-- the arrows from a room to a room -/
def betw (ps : List (Nat × Nat)) (r c : Nat) : List Nat := (outsOf ps r).filter fun a => decide ((ps.getD a (0, 0)).2 = c)
theorem betw_len (ps : List (Nat × Nat)) (r c : Nat) : (betw ps r c).length = (AF.col ps c).count r := by
  have e1 : betw ps r c = (List.range ps.length).filter fun a => decide ((ps.getD a (0, 0)) = (r, c)) := by
    unfold betw outsOf
    rw [List.filter_filter]
    apply List.filter_congr
    intro a _
    generalize ps.getD a (0, 0) = p
    obtain ⟨x, y⟩ := p
    by_cases h1 : x = r
    · by_cases h2 : y = c
      · simp [h1, h2]
      · simp [h1, h2]
    · simp [h1]
  rw [e1, ← AF.count_pair]
  have e2 := filter_getD ps (0, 0) (fun p => decide (p = (r, c))) fun p => p
  rw [List.map_id'] at e2
  have e3 := congrArg List.length e2
  rw [List.length_map] at e3
  rw [e3, List.count, List.countP_eq_length_filter]
  congr 1
  apply List.filter_congr
  intro p _
  by_cases h : p = (r, c)
  · subst h; simp
  · simp [h]
theorem betw_mem {ps : List (Nat × Nat)} {r c a : Nat} : a ∈ betw ps r c ↔ a < ps.length ∧ (ps.getD a (0, 0)).1 = r ∧ (ps.getD a (0, 0)).2 = c := by
  unfold betw outsOf
  rw [List.mem_filter, List.mem_filter, List.mem_range, decide_eq_true_eq, decide_eq_true_eq]
  constructor
  · rintro ⟨⟨h1, h2⟩, h3⟩
    exact ⟨h1, h2, h3⟩
  · rintro ⟨h1, h2, h3⟩
    exact ⟨⟨h1, h2⟩, h3⟩
abbrev kI (a : Nat) : L2.Key := Sum.inl (a : Int)
/-- what the dict of partners says -/
def PartOk (ps : List (Nat × Nat)) (a b : Nat) (kvs : List (L2.Key × V)) : Prop := ∀ i, i < ps.length →
  ((ps.getD i (0, 0)).2 = b → ∃ j, valV kvs (kI i) = some (nv j) ∧ j < ps.length ∧ (ps.getD j (0, 0)).2 = a) ∧ ((ps.getD i (0, 0)).2 ≠ b → valV kvs (kI i) = none)
def spPartners (C : Addr) : Sp := fun vs H Q _ => ∃ (x : Addr) (n a b : Nat) (ps : List (Nat × Nat)), vs = [.ref x, nv a, nv b] ∧ WebAt C H x n ps ∧ AF.CanFold n ps a b ∧
  ∀ (kvs : List (L2.Key × V)) d H', H d = none → Same H H' → H' d = some (.dK kvs) → PartOk ps a b kvs → Q (.ref d) H'
abbrev Npa : List Str := ["web", "one", "other", "found", "room", "arrow", "here", "there", "gone"]
abbrev tEndIs (C : Addr) (s : Nat) : TT := tTest (tOp rEq (tMeth C "end" (spEnd C) [] E0 (tVar 0) (tCons (tVar 5) tNil)) (tVar s))
section
variable {P : Program} {w : World} {K : PySem.W.Frag} {mg : Str → Option Value} {base : Heap} {f C : Addr} {fd : FuncData}
theorem sc_part : FnScope Npa ["web", "one", "other"] (defScope (top 23)) := ⟨rfl, rfl, rfl, by decide +kernel, rfl, by decide +kernel, by decide +kernel⟩
/-- [arrow for arrow in web.outs(room) if web.end(arrow) == one] -/
theorem lc_betw {σ : L2.St} {H : Hp} {D : Addr} {Qd : Hp → Prop} {x dx tp ll lc l r c n s : Nat} {ps : List (Nat × Nat)} (hD : H D = none) (hw : WebAt C H x n ps) (h1 : H x = some (.ins C dx (flds n tp ll lc))) (hl : NL H l (outsOf ps r))
    (hwp : ∀ v, wipe ((wipe σ [5]).set 5 (some v)) [5] = wipe σ [5]) (g5 : ∀ v, ((wipe σ [5]).set 5 (some v))[5]? = some (some v)) (g0 : ∀ v, ((wipe σ [5]).set 5 (some v))[0]? = some (some (V.ref x))) (gs : ∀ v, ((wipe σ [5]).set 5 (some v))[s]? = some (some (nv c)))
    (hd : ∀ H', Same H H' → NL H' D (betw ps r c) → Qd H') :
    ∃ W : Nat → Nat → Hp → Prop, (∃ m, W 0 m (upd H D (.lst []))) ∧ ∀ i m H, W i m H →
      ((Itl K l).stop i H ∧ Qd H) ∨ ((Itl K l).go i H ∧ ∃ Nx : Hp → Prop, (∀ H', Nx H' → ∃ m', m' < m ∧ W (i + 1) m' H') ∧ ∀ x H', (Itl K l).yld i H x H' → gName 5 x (wipe σ [5]) H' fun σ2 H2 => wipe σ2 [5] = wipe σ [5] ∧
        tEndIs C s σ2 H2 fun b H3 => if b = true then tVar 5 σ2 H3 fun y H4 => ∃ acc, H4 D = some (.lst acc) ∧ acc.length < sizeLine ∧ Nx (upd H4 D (.lst (acc ++ [y]))) else Nx H3) := by
  refine lc_gen (walk_list (K := K) (a := l) (xs := (outsOf ps r).map nv)) hD (fun k => decide ((ps.getD ((outsOf ps r).getD k 0) (0, 0)).2 = c)) (fun k y _ => y = nv ((outsOf ps r).getD k 0)) (fun _ _ _ _ _ h => h) (fun H' s2 => sq_of (s2 l _ hl)) ?_ ?_ ?_
  · rw [List.length_map]
    have := hw.hl
    exact Nat.le_trans (outs_len ps r) (by omega)
  · rintro i xx H6 H7 ys2 hy2 hi s6 ⟨rfl, hxx⟩ Kn Ky kn ky
    rw [List.getElem?_map] at hxx
    rw [List.length_map] at hi
    have ea : xx = nv ((outsOf ps r).getD i 0) := by
      rw [List.getElem?_eq_getElem hi] at hxx
      rw [List.getD_eq_getElem?_getD, List.getElem?_eq_getElem hi]
      exact (Option.some.inj hxx).symm
    subst ea
    have hm : (outsOf ps r).getD i 0 ∈ outsOf ps r := by
      rw [List.getD_eq_getElem?_getD, List.getElem?_eq_getElem hi]
      exact List.getElem_mem hi
    obtain ⟨a1, a2⟩ := outs_lt hm
    refine ⟨hwp _, _, g0 _, x, dx, _, rfl, s6 x _ h1, flds_no _ _ _ _ (by decide +kernel) (by decide +kernel) (by decide +kernel) (by decide +kernel), _, g5 _, x, n, _, ps, rfl, hw.mono s6, a1, _, gs _, rfl, _, rfl, ?_⟩
    by_cases h : (ps.getD ((outsOf ps r).getD i 0) (0, 0)).2 = c
    · have e : decide (nv (ps.getD ((outsOf ps r).getD i 0) (0, 0)).2 = nv c) = true := decide_eq_true (by rw [h])
      rw [e]
      exact iteT ⟨_, g5 _, ky (decide_eq_true h) _ _ (Same.refl _) rfl⟩
    · have e : decide (nv (ps.getD ((outsOf ps r).getD i 0) (0, 0)).2 = nv c) = false := decide_eq_false fun z => h (by injection z with z; omega)
      rw [e]
      exact iteF (kn (decide_eq_false h) _ (Same.refl _))
  · intro H6 ys2 s6 hy2 hA2
    have e2 : ys2 = (betw ps r c).map nv := by
      rw [List.length_map] at hA2
      rw [A2.eqmap (f := fun k => nv ((outsOf ps r).getD k 0)) hA2]
      exact filter_getD (outsOf ps r) 0 (fun a => decide ((ps.getD a (0, 0)).2 = c)) nv
    subst e2
    exact hd H6 s6 hy2
theorem ok_part (B : Bn mg) (F : FnP K "partners" "partners" (top 23) f fd) (hm : mg "partners" = some (.ref f)) (cR : C8.Met P w K mg base 1 C "rooms" (spRooms C) []) (cO : C8.Met P w K mg base 3 C "outs" (spOuts C) []) (cE : C8.Met P w K mg base 3 C "end" (spEnd C) []) :
    C8.Cal P w K mg base 4 "partners" (spPartners C) [] := by
  refine cal_mk F hm (fun _ _ _ _ _ _ us hl => match us, hl with | [_, _, _], _ => rfl) sc_part (fun vs H Q E h => ?_) (fun cdv A outer s H vs Q E hr h => ?_)
  · obtain ⟨x, n, a, b, ps, rfl, _⟩ := h
    rfl
  · obtain ⟨x, n, a, b, ps, rfl, hw, hc, q⟩ := h
    obtain ⟨dx, tp, ll, lc, h1, _⟩ := hw.ex
    have hn := hw.hn
    have hu := hu_of hr
    refine ⟨_, pss_cons (ps_set (i := 3) sc_part.nd rfl (Or.inl rfl) pe_dnewK)
      (pss_cons (ps_for PassesOwn.never rfl (pi_range1 rfl B.range (pa_cons (C8.pe_mt0 cR hr (by decide) (pv 0)) pa_nil)) (pg_name (i := 4) sc_part.nd rfl (Or.inl rfl))
        (pss_cons (ps_setLc (i := 6) (own := [("arrow", 5)]) (g := gName 5) (tt := tEndIs C 1) (te := tVar 5) rfl sc_part.nd rfl rfl (sw_true rfl rfl rfl (by decide +kernel)) (pi_list (C8.pe_mt cO hr (by decide) (pv 0) (pa_cons (pv 4) pa_nil))) (blkOk_by (N := Npa) (sc := defScope (top 23)) (by decide +kernel))
            (fun _ _ _ _ _ => pg_name (i := 5) sc_part.nd rfl (Or.inl rfl)) (fun _ _ _ _ _ => pts_one (pt_cmpR op_eq (C8.pe_mt cE hr (by decide) (pv 0) (pa_cons (pv 5) pa_nil)) (pv 1) (nomark _))) (fun _ _ _ _ _ => pv 5))
        (pss_cons (ps_setLc (i := 7) (own := [("arrow", 5)]) (g := gName 5) (tt := tEndIs C 2) (te := tVar 5) rfl sc_part.nd rfl rfl (sw_true rfl rfl rfl (by decide +kernel)) (pi_list (C8.pe_mt cO hr (by decide) (pv 0) (pa_cons (pv 4) pa_nil))) (blkOk_by (N := Npa) (sc := defScope (top 23)) (by decide +kernel))
            (fun _ _ _ _ _ => pg_name (i := 5) sc_part.nd rfl (Or.inl rfl)) (fun _ _ _ _ _ => pts_one (pt_cmpR op_eq (C8.pe_mt cE hr (by decide) (pv 0) (pa_cons (pv 5) pa_nil)) (pv 2) (nomark _))) (fun _ _ _ _ _ => pv 5))
        (pss_one (ps_for PassesOwn.never rfl (pi_zip (by rfl) B.zip (pa_cons (pv 6) (pa_cons (pv 7) pa_nil))) (pg_tup rfl (pgs_cons (pg_name (i := 5) sc_part.nd rfl (Or.inl rfl)) (pgs_cons (pg_name (i := 8) sc_part.nd rfl (Or.inl rfl)) pgs_nil)))
          (pss_one (ps_dput hu (pv 3) (pv 8) (pv 5) rfl)))))))
      (pss_one (ps_ret (pv 3)))), ?_⟩
    have no := fun (m : Str) (e1 : (m == ("size" : Str)) = false) (e2 : (m == ("pairs" : Str)) = false) (e3 : (m == ("leaving" : Str)) = false) (e4 : (m == ("coming" : Str)) = false) => flds_no n tp ll lc e1 e2 e3 e4
    have G := hw.good
    have hl400 := hw.hl
    obtain ⟨hab, hbn, hpm⟩ := hc
    intro d hd
    have s0 : Same H (upd H d (.dK [])) := same_new hd
    refine ⟨_, rfl, x, dx, _, rfl, s0 x _ h1, no _ (by decide +kernel) (by decide +kernel) (by decide +kernel) (by decide +kernel), x, n, ps, rfl, hw.mono s0, (n : Int), rfl, by omega, by omega, for_it (walk_rangeN (n := n))
      (fun i σ H1 => ∃ (v4 v5 v6 v7 v8 : Option V) (kvs : List (L2.Key × V)), σ = [some (.ref x), some (nv a), some (nv b), some (.ref d), v4, v5, v6, v7, v8] ∧ Same H H1 ∧ H1 d = some (.dK kvs) ∧ kvs.length ≤ i * 400 ∧
        ∀ k, k < ps.length → ((ps.getD k (0, 0)).2 = b → (ps.getD k (0, 0)).1 < i → ∃ j, valV kvs (kI k) = some (nv j) ∧ j < ps.length ∧ (ps.getD j (0, 0)).2 = a) ∧ ((ps.getD k (0, 0)).2 ≠ b → valV kvs (kI k) = none))
      ⟨none, none, none, none, none, [], rfl, s0, upd_same, Nat.zero_le _, fun k _ => ⟨fun _ h => absurd h (Nat.not_lt_zero _), fun _ => rfl⟩⟩ (fun _ _ _ _ _ => trivial) ?_ ?_⟩
    · rintro i xx σ H1 H2 hi ⟨v4, v5, v6, v7, v8, kvs, rfl, s1, hd1, hk1, hI1⟩ ⟨rfl, rfl⟩
      -- here
      refine ⟨_, rfl, x, dx, _, rfl, s1 x _ h1, no _ (by decide +kernel) (by decide +kernel) (by decide +kernel) (by decide +kernel), _, rfl, x, n, i, ps, rfl, hw.mono s1, hi, fun l H3 hl s3 hN => ⟨l, rfl, ⟨_, sq_of hN⟩, fun p6 hp6 => ?_⟩⟩
      have c3 : Same H H3 := s1.trans s3
      refine lc_betw (r := i) (c := a) hp6 (hw.mono c3) (c3 x _ h1) hN (fun _ => rfl) (fun _ => rfl) (fun _ => rfl) (fun _ => rfl) fun H4 s4 h4 => ?_
      have c4 : Same H H4 := c3.trans s4
      -- there
      refine ⟨_, rfl, x, dx, _, rfl, c4 x _ h1, no _ (by decide +kernel) (by decide +kernel) (by decide +kernel) (by decide +kernel), _, rfl, x, n, i, ps, rfl, hw.mono c4, hi, fun l' H5 hl' s5 hN' => ⟨l', rfl, ⟨_, sq_of hN'⟩, fun p7 hp7 => ?_⟩⟩
      have c5 : Same H H5 := c4.trans s5
      refine lc_betw (r := i) (c := b) hp7 (hw.mono c5) (c5 x _ h1) hN' (fun _ => rfl) (fun _ => rfl) (fun _ => rfl) (fun _ => rfl) fun H6 s6 h7 => ?_
      have c6 : Same H H6 := c5.trans s6
      have h6 : NL H6 p6 (betw ps i a) := (h4.mono s5).mono s6
      have d6 : H6 d = some (.dK kvs) := s6 d _ (s5 d _ (s4 d _ (s3 d _ hd1)))
      have n6 : p6 ≠ d := ne_of h6 d6 (by intro z; cases z)
      have n7 : p7 ≠ d := ne_of h7 d6 (by intro z; cases z)
      have eqlen : (betw ps i a).length = (betw ps i b).length := by rw [betw_len, betw_len, hpm.count_eq]
      have hbl : (betw ps i b).length ≤ 400 := by
        have h1 : (betw ps i b).length ≤ (outsOf ps i).length := List.length_filter_le _ _
        have h2 := outs_len ps i
        omega
      have hil : i * 400 ≤ 100 * 400 := Nat.mul_le_mul_right 400 (by omega)
      -- for arrow, gone in zip(here, there)
      refine ⟨_, rfl, _, rfl, p6, p7, _, _, rfl, sq_of h6, sq_of h7, for_it (walk_zip (K := K) (a := p6) (b := p7) (xs := (betw ps i a).map nv) (ys := (betw ps i b).map nv) (n := (betw ps i b).length) (by rw [List.length_map, List.length_map, eqlen, Nat.min_self]))
        (fun j σ H' => ∃ (v5 v8 : Option V) (kvs : List (L2.Key × V)), σ = [some (.ref x), some (nv a), some (nv b), some (.ref d), some (nv i), v5, some (.ref p6), some (.ref p7), v8] ∧ Same (ers d H6) H' ∧ H' d = some (.dK kvs) ∧ kvs.length ≤ i * 400 + j ∧
          ∀ k, k < ps.length → ((ps.getD k (0, 0)).2 = b → ((ps.getD k (0, 0)).1 < i ∨ ∃ m, m < j ∧ (betw ps i b)[m]? = some k) → ∃ j, valV kvs (kI k) = some (nv j) ∧ j < ps.length ∧ (ps.getD j (0, 0)).2 = a) ∧ ((ps.getD k (0, 0)).2 ≠ b → valV kvs (kI k) = none))
        ⟨v5, v8, kvs, rfl, ers_same, d6, by omega, fun k hk => ⟨fun h1 h2 => (hI1 k hk).1 h1 (by
          rcases h2 with h2 | ⟨m, hm, _⟩
          · exact h2
          · omega), (hI1 k hk).2⟩⟩ (fun j σ H' _ ⟨_, _, _, _, s', _⟩ => ⟨sq_of (s' p6 _ (by rw [ers_ne n6]; exact h6)), sq_of (s' p7 _ (by rw [ers_ne n7]; exact h7))⟩) ?_ ?_⟩
      · rintro j xx σ H7 H8 hj ⟨v5', v8', kvs', rfl, s7, d7, hk7, hI7⟩ ⟨T, x1, x2, rfl, hT, rfl, e1, e2⟩
        have hja : j < (betw ps i a).length := by omega
        have ea : x1 = nv (betw ps i a)[j] := by
          have z : ((betw ps i a).map nv)[j]? = some x1 := e1
          rw [List.getElem?_map, List.getElem?_eq_getElem hja] at z
          exact (Option.some.inj z).symm
        have eb : x2 = nv (betw ps i b)[j] := by
          have z : ((betw ps i b).map nv)[j]? = some x2 := e2
          rw [List.getElem?_map, List.getElem?_eq_getElem hj] at z
          exact (Option.some.inj z).symm
        subst ea eb
        obtain ⟨ma1, ma2, ma3⟩ := betw_mem.mp (List.getElem_mem hja)
        obtain ⟨mb1, mb2, mb3⟩ := betw_mem.mp (List.getElem_mem hj)
        have hTd : d ≠ T := ne_of_none d7 hT
        refine ⟨T, _, rfl, st_of upd_same, rfl, _, _, rfl, _, _, rfl, rfl, ?_⟩
        refine ⟨_, rfl, _, rfl, _, rfl, d, _, rfl, DPut.k (k := kI (betw ps i b)[j]) (by rw [upd_ne hTd]; exact d7) (sz_lt (by omega)), ?_⟩
        refine ⟨_, _, _, rfl, fun c o e => ?_, upd_same, ?_, fun k hk => ⟨fun h1 h2 => ?_, fun h1 => ?_⟩⟩
        · have hcd : c ≠ d := fun z => by
            rw [z] at e
            unfold ers at e
            rw [if_pos rfl] at e
            cases e
          have e7 := s7 c o e
          rw [upd_ne hcd, upd_ne (ne_of_none e7 hT)]
          exact e7
        · have := length_putK kvs' (kI (betw ps i b)[j]) (nv (betw ps i a)[j])
          omega
        · rw [valV_put]
          by_cases hkk : kI k = kI (betw ps i b)[j]
          · rw [if_pos hkk]
            exact ⟨_, rfl, ma1, ma3⟩
          · rw [if_neg hkk]
            refine (hI7 k hk).1 h1 ?_
            rcases h2 with h2 | ⟨m, hm, em⟩
            · exact .inl h2
            · by_cases hmj : m = j
              · exfalso
                apply hkk
                subst hmj
                rw [List.getElem?_eq_getElem hj] at em
                rw [Option.some.inj em]
              · exact .inr ⟨m, by omega, em⟩
        · rw [valV_put]
          by_cases hkk : kI k = kI (betw ps i b)[j]
          · exfalso
            have e := Sum.inl.inj hkk
            have e' : k = (betw ps i b)[j] := by omega
            rw [e'] at h1
            exact h1 mb3
          · rw [if_neg hkk]
            exact (hI7 k hk).2 h1
      · rintro σ H7 ⟨v5', v8', kvs', rfl, s7, d7, hk7, hI7⟩
        have cc : Same H H7 := fun c o e => s7 c o (by
          rw [ers_ne (ne_of_none e hd)]
          exact c6 c o e)
        refine ⟨_, _, _, _, _, kvs', rfl, cc, d7, ?_, fun k hk => ⟨fun h1 h2 => (hI7 k hk).1 h1 ?_, (hI7 k hk).2⟩⟩
        · have e : (i + 1) * 400 = i * 400 + 400 := Nat.succ_mul i 400
          omega
        · by_cases hki : (ps.getD k (0, 0)).1 < i
          · exact .inl hki
          · have hm : k ∈ betw ps i b := betw_mem.mpr ⟨hk, by omega, h1⟩
            obtain ⟨m, em⟩ := List.mem_iff_getElem?.mp hm
            exact .inr ⟨m, (List.getElem?_eq_some_iff.mp em).1, em⟩
    · rintro σ H1 ⟨v4, v5, v6, v7, v8, kvs, rfl, s1, hd1, hk1, hI1⟩
      exact ⟨_, rfl, q kvs d H1 hd s1 hd1 fun k hk => ⟨fun h => (hI1 k hk).1 h (G.2.1 _ (getD_mem hk)).1, (hI1 k hk).2⟩⟩
end
end AW

set_option maxRecDepth 100000
set_option maxHeartbeats 4000000
namespace AW
open PySem PySem.Spec PyProof.Rows L2
/-! fold_parts, fold -/
theorem a2_getD {α : Type} {R : Nat → V → Prop} {ns : List Nat} {ys : List V} (h : A2 (fun i y => R (ns.getD i 0) y) (List.range ns.length) ys) : A2 R ns ys := by
  have z := A2.mapL (R := R) (f := fun i => ns.getD i 0) h
  have e := map_getD ns 0 fun a : Nat => a
  rw [List.map_id'] at e
  rw [e] at z
  exact z
theorem nv_get {ns : List Nat} {i : Nat} {v : V} (h : (ns.map nv)[i]? = some v) : i < ns.length ∧ v = nv (ns.getD i 0) ∧ ns.getD i 0 ∈ ns := by
  rw [List.getElem?_map] at h
  by_cases hi : i < ns.length
  · rw [List.getElem?_eq_getElem hi] at h
    rw [List.getD_eq_getElem?_getD, List.getElem?_eq_getElem hi]
    exact ⟨hi, (Option.some.inj h).symm, List.getElem_mem hi⟩
  · rw [List.getElem?_eq_none (by omega)] at h
    cases h
/-- a comprehension over a list of ints -/
theorem lc_N {K : PySem.W.Frag} {g : TG} {te : TE} {vs : List Nat} {σ : L2.St} {H1 : Hp} {l D : Addr} {ns : List Nat} {Qd : Hp → Prop} (hN : NL H1 l ns) (hD : H1 D = none) (R : Nat → V → Hp → Prop) (hm : ∀ i y H H', Same H H' → R i y H → R i y H') (hn : ns.length ≤ 100000)
    (hgm : ∀ x σ H (P P' : L2.St → Hp → Prop), (∀ a b, P a b → P' a b) → g x σ H P → g x σ H P')
    (hs : ∀ a H' ys, a ∈ ns → H' D = some (.lst ys) → Same H1 H' → ∀ (Ky : V → Hp → Prop), (∀ y H3, Same H' H3 → R a y (ers D H3) → Ky y H3) →
      g (nv a) (wipe σ vs) H' fun σ2 H2 => wipe σ2 vs = wipe σ vs ∧ te σ2 H2 Ky)
    (hd : ∀ H' ys, Same H1 H' → H' D = some (.lst ys) → A2 (fun a y => R a y H') ns ys → Qd H') :
    ∃ W : Nat → Nat → Hp → Prop, (∃ m, W 0 m (upd H1 D (.lst []))) ∧ ∀ i m H, W i m H →
      ((Itl K l).stop i H ∧ Qd H) ∨ ((Itl K l).go i H ∧ ∃ Nx : Hp → Prop, (∀ H', Nx H' → ∃ m', m' < m ∧ W (i + 1) m' H') ∧ ∀ x H', (Itl K l).yld i H x H' → g x (wipe σ vs) H' fun σ2 H2 => wipe σ2 vs = wipe σ vs ∧ tYes σ2 H2 fun b H3 =>
        if b = true then te σ2 H3 fun y H4 => ∃ acc, H4 D = some (.lst acc) ∧ acc.length < sizeLine ∧ Nx (upd H4 D (.lst (acc ++ [y]))) else Nx H3) := by
  refine lc_all (walk_list (K := K) (a := l) (xs := ns.map nv)) hD (fun i y H' => R (ns.getD i 0) y H') (fun i => hm _) (fun H6 s6 => sq_of (s6 l _ hN)) (by rw [List.length_map]; exact hn) hgm ?_ ?_
  · rintro i xx H6 H7 ys2 hy2 hi s6 ⟨rfl, hxx⟩ Ky2 hk2
    obtain ⟨h1, rfl, h3⟩ := nv_get hxx
    exact hs _ _ _ h3 hy2 s6 Ky2 hk2
  · intro H' ys s' hy hA
    rw [List.length_map] at hA
    exact hd H' ys s' hy (a2_getD (α := V) (R := fun a y => R a y H') hA)
/-- {k: v for ..}, by a word -/
theorem dc_it {J : It} {n : Nat} {G : Hp → Prop} {Y : Nat → Hp → V → Hp → Prop} (w : Walk J n G Y) {g : TG} {tt : TT} {tk tv : TE} {vs : List Nat} {σ : L2.St} {H1 : Hp} {D : Addr} {Qd : Hp → Prop} (Pv : Nat → Hp → Prop) (h0 : Pv 0 (upd H1 D (.dK []))) (hG : ∀ i H, i ≤ n → Pv i H → G H)
    (hs : ∀ i x H H', i < n → Pv i H → Y i H x H' → g x (wipe σ vs) H' fun σ2 H2 => wipe σ2 vs = wipe σ vs ∧ tt σ2 H2 fun b H3 =>
      if b = true then tk σ2 H3 fun y H4 => tv σ2 H4 fun z H5 => ∃ kvs k, y = kV k ∧ H5 D = some (.dK kvs) ∧ kvs.length < sizeLine ∧ Pv (i + 1) (upd H5 D (.dK (putK kvs k z))) else Pv (i + 1) H3) (hd : ∀ H, Pv n H → Qd H) :
    ∃ W : Nat → Nat → Hp → Prop, (∃ m, W 0 m (upd H1 D (.dK []))) ∧ ∀ i m H, W i m H →
      (J.stop i H ∧ Qd H) ∨ (J.go i H ∧ ∃ Nx : Hp → Prop, (∀ H', Nx H' → ∃ m', m' < m ∧ W (i + 1) m' H') ∧ ∀ x H', J.yld i H x H' → g x (wipe σ vs) H' fun σ2 H2 => wipe σ2 vs = wipe σ vs ∧ tt σ2 H2 fun b H3 =>
        if b = true then tk σ2 H3 fun y H4 => tv σ2 H4 fun z H5 => ∃ kvs k, y = kV k ∧ H5 D = some (.dK kvs) ∧ kvs.length < sizeLine ∧ Nx (upd H5 D (.dK (putK kvs k z))) else Nx H3) := by
  refine ⟨fun i m H => m = n - i ∧ i ≤ n ∧ Pv i H, ⟨n, by simp, Nat.zero_le _, h0⟩, ?_⟩
  rintro i m H ⟨rfl, hi, p⟩
  have q := hG i H hi p
  by_cases hlt : i < n
  · refine .inr ⟨w.goes i H hlt q, Pv (i + 1), fun H' p' => ⟨n - (i + 1), by omega, rfl, hlt, p'⟩, fun x H' y => hs i x H H' hlt p (w.yields i H x H' hlt q y)⟩
  · have e : i = n := by omega
    subst e
    exact .inl ⟨w.stops H q, hd H p⟩
section
variable {X : Cx}
theorem call_lenM {k j : Nat} {C : Addr} {sp : Sp} (c : C8.Met X.prog X.w X.K X.mg X.base k C "__len__" sp []) (hr : Room j X.A) (hk : k + 1 ≤ j) : CallR X (.builtin "len") (rLenOwn C sp) := by
  obtain ⟨f, fd, ps, ds, hc, hm, F, b, d⟩ := c.ex
  cases d
  exact call_lenOwn hm.at_ hm.fn F (hr.mono hk) b
end
def spParts (C : Addr) : Sp := fun vs H Q _ => ∃ (x : Addr) (n a b : Nat) (ps : List (Nat × Nat)), vs = [.ref x, nv a, nv b] ∧ WebAt C H x n ps ∧ AF.CanFold n ps a b ∧
  ∀ t y u v H', H y = none → Same H H' → H' t = some (.tup [.ref y, u, v]) → WebAt C H' y (n - 1) (AF.foldW ps a b) → Q (.ref t) H'
def spFold (C : Addr) : Sp := fun vs H Q _ => ∃ (x : Addr) (n a b : Nat) (ps : List (Nat × Nat)), vs = [.ref x, nv a, nv b] ∧ WebAt C H x n ps ∧ AF.CanFold n ps a b ∧
  ∀ y H', H y = none → Same H H' → WebAt C H' y (n - 1) (AF.foldW ps a b) → Q (.ref y) H'
abbrev Nfp : List Str := ["web", "one", "other", "gone", "kept", "number", "rooms", "pairs", "numbers", "arrow", "at", "room"]
abbrev tRen (K : PySem.W.Frag) (C : Addr) : TE := tTup (tCons (tOp (rIxL K) (tVar 6) (tMeth C "begin" (spBegin C) [] E0 (tVar 0) (tCons (tVar 9) tNil))) (tCons (tOp (rIxL K) (tVar 6) (tMeth C "end" (spEnd C) [] E0 (tVar 0) (tCons (tVar 9) tNil))) tNil))
def keptOf (ps : List (Nat × Nat)) (b : Nat) : List Nat := (List.range ps.length).filter fun i => decide ((ps.getD i (0, 0)).2 ≠ b)
theorem kept_mem {ps : List (Nat × Nat)} {b i : Nat} : i ∈ keptOf ps b ↔ i < ps.length ∧ (ps.getD i (0, 0)).2 ≠ b := by
  unfold keptOf
  rw [List.mem_filter, List.mem_range, decide_eq_true_eq]
theorem kept_len (ps : List (Nat × Nat)) (b : Nat) : (keptOf ps b).length ≤ ps.length := by
  have h := List.length_filter_le (fun i => decide ((ps.getD i (0, 0)).2 ≠ b)) (List.range ps.length)
  rw [List.length_range] at h
  exact h
theorem kept_fold (ps : List (Nat × Nat)) (a b : Nat) : (keptOf ps b).map (fun i => (AF.ren a b (ps.getD i (0, 0)).1, AF.ren a b (ps.getD i (0, 0)).2)) = AF.foldW ps a b :=
  filter_getD ps (0, 0) (fun p => decide (p.2 ≠ b)) fun p => (AF.ren a b p.1, AF.ren a b p.2)
theorem fold_len (ps : List (Nat × Nat)) (a b : Nat) : (AF.foldW ps a b).length ≤ ps.length := by
  unfold AF.foldW
  rw [List.length_map]
  exact List.length_filter_le _ _
section
variable {P : Program} {w : World} {K : PySem.W.Frag} {mg : Str → Option Value} {base : Heap} {f C : Addr} {fd : FuncData}
theorem sc_fp : FnScope Nfp ["web", "one", "other"] (defScope (top 24)) := ⟨rfl, rfl, rfl, by decide +kernel, rfl, by decide +kernel, by decide +kernel⟩
theorem ok_parts (B : Bn mg) (F : FnP K "fold_parts" "fold_parts" (top 24) f fd) (hm : mg "fold_parts" = some (.ref f)) (cR : C8.Met P w K mg base 1 C "rooms" (spRooms C) []) (cL : C8.Met P w K mg base 1 C "__len__" (spLen C) [])
    (cB : C8.Met P w K mg base 3 C "begin" (spBegin C) []) (cE : C8.Met P w K mg base 3 C "end" (spEnd C) []) (cN : C8.Cal P w K mg base 5 "need_fold" (spNeedFold C) []) (cP : C8.Cal P w K mg base 4 "partners" (spPartners C) []) (cW : C8.Mak P w K mg base 3 "Web" C (spInit C) []) :
    C8.Cal P w K mg base 6 "fold_parts" (spParts C) [] := by
  refine cal_mk F hm (fun _ _ _ _ _ _ us hl => match us, hl with | [_, _, _], _ => rfl) sc_fp (fun vs H Q E h => ?_) (fun cdv A outer s H vs Q E hr h => ?_)
  · obtain ⟨x, n, a, b, ps, rfl, _⟩ := h
    rfl
  · obtain ⟨x, n, a, b, ps, rfl, hw, hc, q⟩ := h
    obtain ⟨dx, tp, ll, lc, h1, _⟩ := hw.ex
    have hn := hw.hn
    have hu := hu_of hr
    have G := hw.good
    have hl400 := hw.hl
    obtain ⟨hab, hbn, hpm⟩ := hc
    refine ⟨_, pss_cons (ps_expr (C8.pe_c cN hr (by decide) rfl (pa_cons (pv 0) (pa_cons (pv 1) (pa_cons (pv 2) pa_nil)))))
      (pss_cons (ps_set (i := 3) sc_fp.nd rfl (Or.inr rfl) (C8.pe_c cP hr (by decide) rfl (pa_cons (pv 0) (pa_cons (pv 1) (pa_cons (pv 2) pa_nil)))))
      (pss_cons (ps_setLc (i := 4) (own := [("arrow", 9)]) (g := gName 9) (tt := tB (tDNotIn (tVar 9) (tVar 3))) (te := tVar 9) rfl sc_fp.nd rfl rfl (sw_true rfl rfl rfl (by decide +kernel)) (pi_range1 rfl B.range (pa_cons (pe_callB (call_lenM cL hr (by decide)) (by rfl) B.len (by decide +kernel) (pa_cons (pv 0) pa_nil)) pa_nil)) (blkOk_by (N := Nfp) (sc := defScope (top 24)) (by decide +kernel))
            (fun _ _ _ _ _ => pg_name (i := 9) sc_fp.nd rfl (Or.inl rfl)) (fun _ _ _ _ _ => pts_one (pt_cmp (pc_dnotin hu (pv 9) (pv 3)) (by rfl))) (fun _ _ _ _ _ => pv 9))
      (pss_cons (ps_set (i := 5) sc_fp.nd rfl (Or.inr rfl) (pe_dc (own := [("at", 10), ("arrow", 9)]) (g := gTup K 2 (gCons (gName 10) (gCons (gName 9) gNil))) (tt := tYes) (tk := tVar 9) (tv := tVar 10) rfl sc_fp.nd (pi_enum (by rfl) B.enumerate (pa_cons (pv 4) pa_nil)) (blkOk_by (N := Nfp) (sc := defScope (top 24)) (by decide +kernel))
            (fun _ _ _ _ _ => pg_tup rfl (pgs_cons (pg_name (i := 10) sc_fp.nd rfl (Or.inl rfl)) (pgs_cons (pg_name (i := 9) sc_fp.nd rfl (Or.inl rfl)) pgs_nil))) (fun _ _ _ _ _ => pts_nil) (fun _ _ _ _ _ => pv 9) (fun _ _ _ _ _ => pv 10)))
      (pss_cons (ps_set (i := 6) sc_fp.nd rfl (Or.inr rfl) (pe_lc (own := [("room", 11)]) (g := gName 11) (tt := tYes) rfl sc_fp.nd (pi_range1 rfl B.range (pa_cons (C8.pe_mt0 cR hr (by decide) (pv 0)) pa_nil)) (blkOk_by (N := Nfp) (sc := defScope (top 24)) (by decide +kernel))
            (fun _ _ _ _ _ => pg_name (i := 11) sc_fp.nd rfl (Or.inl rfl)) (fun _ _ _ _ _ => pts_nil)
            (fun _ _ _ _ _ => pe_ifExp (pt_cmpR op_eq (pv 11) (pv 2) (nomark _)) (pv 1) (pe_op op_sub (pv 11) (pe_callTy (T := "int") call_int1 (by rfl) B.int (by decide +kernel) (pa_cons (pe_cmpR op_gt (pv 11) (pv 2) (nomark _)) pa_nil))))))
      (pss_cons (ps_setLc (i := 7) (own := [("arrow", 9)]) (g := gName 9) (tt := tYes) (te := tRen K C) rfl sc_fp.nd rfl rfl (sw_true rfl rfl rfl (by decide +kernel)) (pi_list (pv 4)) (blkOk_by (N := Nfp) (sc := defScope (top 24)) (by decide +kernel))
            (fun _ _ _ _ _ => pg_name (i := 9) sc_fp.nd rfl (Or.inl rfl)) (fun _ _ _ _ _ => pts_nil)
            (fun _ _ _ _ _ => pe_tup (pa_cons (pe_ix ix_list (pv 6) (C8.pe_mt cB hr (by decide) (pv 0) (pa_cons (pv 9) pa_nil)) (fun _ _ => rfl)) (pa_cons (pe_ix ix_list (pv 6) (C8.pe_mt cE hr (by decide) (pv 0) (pa_cons (pv 9) pa_nil)) (fun _ _ => rfl)) pa_nil))))
      (pss_cons (ps_setLc (i := 8) (own := [("arrow", 9)]) (g := gName 9) (tt := tYes) (te := tDGet (tVar 5) (tDGet2 (tVar 3) (tVar 9) (tVar 9))) rfl sc_fp.nd rfl rfl (sw_true rfl rfl rfl (by decide +kernel)) (pi_range1 rfl B.range (pa_cons (pe_callB (call_lenM cL hr (by decide)) (by rfl) B.len (by decide +kernel) (pa_cons (pv 0) pa_nil)) pa_nil)) (blkOk_by (N := Nfp) (sc := defScope (top 24)) (by decide +kernel))
            (fun _ _ _ _ _ => pg_name (i := 9) sc_fp.nd rfl (Or.inl rfl)) (fun _ _ _ _ _ => pts_nil)
            (fun _ _ _ _ _ => pe_dget hu (pv 5) (pe_dget2 hu (pv 3) (pv 9) (pv 9) ⟨rfl, rfl, rfl, rfl⟩) (fun _ _ => rfl)))
      (pss_one (ps_ret (pe_tup (pa_cons (C8.pe_mk cW hr (by decide) rfl (pa_cons (pe_op op_sub (C8.pe_mt0 cR hr (by decide) (pv 0)) pe_int) (pa_cons (pv 7) pa_nil))) (pa_cons (pv 4) (pa_cons (pv 8) pa_nil)))))))))))), ?_⟩
    have no := fun (m : Str) (e1 : (m == ("size" : Str)) = false) (e2 : (m == ("pairs" : Str)) = false) (e3 : (m == ("leaving" : Str)) = false) (e4 : (m == ("coming" : Str)) = false) => flds_no n tp ll lc e1 e2 e3 e4
    -- need_fold(web, one, other)
    refine ⟨_, rfl, _, rfl, _, rfl, x, n, a, b, ps, rfl, hw, ⟨hab, hbn, hpm⟩, fun H1 s1 => ?_⟩
    -- gone = partners(web, one, other)
    refine ⟨_, rfl, _, rfl, _, rfl, x, n, a, b, ps, rfl, hw.mono s1, ⟨hab, hbn, hpm⟩, fun kvs d H2 hd0 s2 hd2 hP => ?_⟩
    have c2 : Same H H2 := s1.trans s2
    -- kept
    refine ⟨_, rfl, x, dx, _, rfl, c2 x _ h1, x, n, ps, rfl, hw.mono c2, (ps.length : Int), rfl, by omega, by omega, (ps.length : Int), rfl, by omega, by omega, fun kp hkp => lc_gen (walk_rangeN (n := ps.length)) hkp (fun i => decide ((ps.getD i (0, 0)).2 ≠ b)) (fun i y _ => y = nv i) (fun _ _ _ _ _ h => h) (fun _ _ => trivial) (by omega) ?_ ?_⟩
    · rintro i xx H' H'' ys hy hi s3 ⟨rfl, rfl⟩ Kn Ky kn ky
      refine ⟨rfl, _, rfl, _, rfl, d, _, rfl, DGet.k (k := kI i) (s3 d _ hd2), _, rfl, ?_⟩
      by_cases h : (ps.getD i (0, 0)).2 = b
      · obtain ⟨j, e, _⟩ := (hP i hi).1 h
        rw [e]
        exact iteF (kn (decide_eq_false fun z => z h) _ (Same.refl _))
      · rw [(hP i hi).2 h]
        exact iteT ⟨_, rfl, ky (decide_eq_true h) _ _ (Same.refl _) rfl⟩
    · intro H3 ys s3 hk3 hA
      have e3 : ys = (keptOf ps b).map nv := A2.eqmap (f := nv) hA
      subst e3
      have hk3 : NL H3 kp (keptOf ps b) := hk3
      have c3 : Same H H3 := c2.trans s3
      have hd3 := s3 d _ hd2
      clear hA
      -- number
      have hkl : (keptOf ps b).length ≤ 400 := Nat.le_trans (kept_len ps b) (by omega)
      have hlm : ((keptOf ps b).map nv).length = (keptOf ps b).length := List.length_map _
      refine ⟨_, rfl, kp, _, rfl, sq_of hk3, fun nd hnd => dc_it (walk_enum (K := K) (a := kp) (xs := (keptOf ps b).map nv)) (fun i H' => Same H3 H' ∧ ∃ kvs', H' nd = some (.dK kvs') ∧ kvs'.length ≤ i ∧ ∀ k, k < i → ∃ v, valV kvs' (kI ((keptOf ps b).getD k 0)) = some v)
        ⟨same_new hnd, [], upd_same, Nat.le_refl _, fun k h => absurd h (Nat.not_lt_zero _)⟩ (fun i H' _ p => sq_of (p.1 kp _ hk3)) ?_ ?_⟩
      · rintro i xx H' H'' hi ⟨s4, kvs', hk', hkl', hI⟩ ⟨T, x1, x2, rfl, hT, rfl, e1, e2⟩
        cases Option.some.inj e1
        obtain ⟨hi2, rfl, hm2⟩ := nv_get e2
        have hTd : nd ≠ T := ne_of_none hk' hT
        refine ⟨T, _, rfl, st_of upd_same, rfl, _, _, rfl, _, _, rfl, rfl, rfl, ?_⟩
        unfold tYes
        refine iteT ⟨_, rfl, _, rfl, kvs', kI ((keptOf ps b).getD i 0), rfl, by rw [upd_ne hTd]; exact hk', sz_lt (by omega), same_mut (s4.trans (same_new hT)) hnd, _, upd_same, ?_, fun k hk => ?_⟩
        · exact Nat.le_trans (length_putK _ _ _) (Nat.succ_le_succ hkl')
        · rw [valV_put]
          split
          · exact ⟨_, rfl⟩
          · rename_i hne
            by_cases e : k = i
            · subst e
              exact absurd rfl hne
            · exact hI k (by omega)
      · rintro H4 ⟨s4, kvs', hk', hkl', hI⟩
        rw [hlm] at hI
        have hnum : ∀ j, j ∈ keptOf ps b → ∃ v, valV kvs' (kI j) = some v := fun j hj => by
          obtain ⟨k, e⟩ := List.mem_iff_getElem?.mp hj
          obtain ⟨v, hv⟩ := hI k (List.getElem?_eq_some_iff.mp e).1
          rw [List.getD_eq_getElem?_getD, e] at hv
          exact ⟨v, hv⟩
        have c4 : Same H H4 := c3.trans s4
        have hd4 := s4 d _ hd3
        have hk4 := hk3.mono s4
        clear hd3 hk3 hd2
        -- rooms
        refine ⟨_, rfl, x, dx, _, rfl, c4 x _ h1, no _ (by decide +kernel) (by decide +kernel) (by decide +kernel) (by decide +kernel), x, n, ps, rfl, hw.mono c4, (n : Int), rfl, by omega, by omega, fun rp hrp => lc_all (walk_rangeN (n := n)) hrp (fun r y _ => y = nv (AF.ren a b r)) (fun _ _ _ _ _ h => h) (fun _ _ => trivial) (by omega) gName_mono ?_ ?_⟩
        · rintro r xx H' H'' ys hy hr' s5 ⟨rfl, rfl⟩ Ky hk
          refine ⟨rfl, _, rfl, _, rfl, rfl, _, rfl, ?_⟩
          by_cases e : r = b
          · rw [decide_eq_true (show nv r = nv b by rw [e])]
            refine iteT ⟨_, rfl, hk _ _ (Same.refl _) ?_⟩
            rw [e, AF.ren_b]
          · rw [decide_eq_false (show ¬ nv r = nv b from fun z => e (by injection z with z; omega))]
            refine iteF ⟨_, rfl, _, rfl, _, rfl, _, _, rfl, rfl, .inr ⟨_, rfl, _, _, rfl, rfl, hk _ _ (Same.refl _) ?_⟩⟩
            unfold AF.ren
            rw [if_neg e]
            by_cases e2 : r > b
            · rw [if_pos e2, decide_eq_true (show (b : Int) < (r : Int) by omega)]
              show V.int ((r : Int) - 1) = V.int ((r - 1 : Nat) : Int)
              congr 1
              omega
            · rw [if_neg e2, decide_eq_false (show ¬ (b : Int) < (r : Int) by omega)]
              show V.int ((r : Int) - 0) = V.int (r : Int)
              rw [Int.sub_zero]
        · intro H5 ys s5 hr5 hA
          have e5 : ys = ((List.range n).map (AF.ren a b)).map nv := by
            rw [List.map_map]
            exact A2.eqmap (f := fun r => nv (AF.ren a b r)) hA
          subst e5
          have hr5 : NL H5 rp ((List.range n).map (AF.ren a b)) := hr5
          have gr : ∀ r, r < n → (((List.range n).map (AF.ren a b)).map nv)[r]? = some (nv (AF.ren a b r)) := fun r hr' => by
            rw [List.getElem?_map, List.getElem?_map, List.getElem?_range hr']
            rfl
          have c5 := c4.trans s5
          have hd5 := s5 d _ hd4
          have hk5 := hk4.mono s5
          have hn5 := s5 nd _ hk'
          clear hA hd4 hk4 hk'
          -- pairs
          refine ⟨_, rfl, kp, rfl, ⟨_, sq_of hk5⟩, fun pp hpp => lc_N hk5 hpp (fun i y H' => IsP H' (AF.ren a b (ps.getD i (0, 0)).1, AF.ren a b (ps.getD i (0, 0)).2) y) (fun _ _ _ _ => IsP.mono) (by omega) gName_mono ?_ ?_⟩
          · rintro i H' ys hi hy s6 Ky hk
            obtain ⟨i1, i2⟩ := kept_mem.mp hi
            obtain ⟨b1, b2⟩ := G.2.1 _ (getD_mem i1)
            have c6 := c5.trans s6
            refine ⟨rfl, ?_⟩
            refine ⟨_, rfl, _, rfl, x, dx, _, rfl, c6 x _ h1, no _ (by decide +kernel) (by decide +kernel) (by decide +kernel) (by decide +kernel), _, rfl, x, n, i, ps, rfl, hw.mono c6, i1, rp, _, _, _, rfl, rfl, sq_of (s6 rp _ hr5), atI_nat (gr _ b1), ?_⟩
            refine ⟨_, rfl, _, rfl, x, dx, _, rfl, c6 x _ h1, no _ (by decide +kernel) (by decide +kernel) (by decide +kernel) (by decide +kernel), _, rfl, x, n, i, ps, rfl, hw.mono c6, i1, rp, _, _, _, rfl, rfl, sq_of (s6 rp _ hr5), atI_nat (gr _ b2), ?_⟩
            refine ⟨(show 2 ≤ sizeLine by decide), fun t ht => hk _ _ (same_new ht) ⟨t, rfl, ?_⟩⟩
            have hpt : t ≠ pp := fun z => by rw [z, hy] at ht; cases ht
            rw [ers_ne hpt]
            exact upd_same
          · intro H6 ys s6 hp6 hA
            have hA6 : PL H6 pp (AF.foldW ps a b) := ⟨ys, hp6, by
              rw [← kept_fold]
              exact hA.mapL⟩
            have c6 := c5.trans s6
            -- numbers
            refine ⟨_, rfl, x, dx, _, rfl, c6 x _ h1, x, n, ps, rfl, hw.mono c6, (ps.length : Int), rfl, by omega, by omega, (ps.length : Int), rfl, by omega, by omega, fun up hup => lc_all (walk_rangeN (n := ps.length)) hup (fun i y _ => True) (fun _ _ _ _ _ h => h) (fun _ _ => trivial) (by omega) gName_mono ?_ ?_⟩
            · rintro i xx H' H'' ys2 hy2 hi s7 ⟨rfl, rfl⟩ Ky hk
              have hd7 := s7 d _ (s6 d _ hd5)
              have hn7 := s7 nd _ (s6 nd _ hn5)
              refine ⟨rfl, _, rfl, _, rfl, d, rfl, .inl ⟨_, .inl hd7⟩, _, rfl, _, rfl, _, DGet.k (k := kI i) hd7, ?_⟩
              by_cases e : (ps.getD i (0, 0)).2 = b
              · obtain ⟨j, e1, e2, e3⟩ := (hP i hi).1 e
                obtain ⟨v, hv⟩ := hnum j (kept_mem.mpr ⟨e2, by omega⟩)
                rw [e1]
                refine ⟨nd, v, rfl, ?_, hk _ _ (Same.refl _) trivial⟩
                rw [← hv]
                exact DGet.k (k := kI j) hn7
              · obtain ⟨v, hv⟩ := hnum i (kept_mem.mpr ⟨hi, e⟩)
                rw [(hP i hi).2 e]
                refine ⟨nd, v, rfl, ?_, hk _ _ (Same.refl _) trivial⟩
                rw [← hv]
                exact DGet.k (k := kI i) hn7
            · intro H7 ys2 s7 hu7 _
              have c7 := c6.trans s7
              have h16 := hA6.mono s7
              -- return
              refine ⟨_, rfl, x, dx, _, rfl, c7 x _ h1, no _ (by decide +kernel) (by decide +kernel) (by decide +kernel) (by decide +kernel), x, n, ps, rfl, hw.mono c7, _, _, rfl, rfl, _, rfl, fun y dy hy hdy hne => ?_⟩
              have s8 : Same H7 (upd (upd H7 dy (.own y)) y (.ins C dy [])) := (same_new hdy).trans (same_new (by rw [upd_ne (Ne.symm hne)]; exact hy))
              have en : ((n : Int) - 1) = ((n - 1 : Nat) : Int) := by omega
              refine ⟨y, dy, pp, n - 1, AF.foldW ps a b, (by
                show [V.ref y, V.int ((n : Int) - 1), V.ref pp] = [V.ref y, nv (n - 1), V.ref pp]
                rw [en]), upd_same, h16.mono s8, G.step ⟨hab, hbn, hpm⟩, by omega, Nat.lt_of_le_of_lt (fold_len ps a b) hl400, fun H9 k9 w9 => ⟨rfl, ?_⟩⟩
              have s9 : Same H7 H9 := fun c o e => k9 c o (s8 c o e) (ne_of_none e hy)
              refine ⟨_, rfl, _, rfl, (show 3 ≤ sizeLine by decide), fun t ht => q t y _ _ _ ((c7.free hy)) ((c7.trans s9).trans (same_new ht)) upd_same (w9.mono (same_new ht))⟩
theorem sc_fo : FnScope ["web", "one", "other"] ["web", "one", "other"] (defScope (top 25)) := ⟨rfl, rfl, rfl, by decide +kernel, rfl, by decide +kernel, by decide +kernel⟩
theorem ok_fold (F : FnP K "fold" "fold" (top 25) f fd) (hm : mg "fold" = some (.ref f)) (cP : C8.Cal P w K mg base 6 "fold_parts" (spParts C) []) : C8.Cal P w K mg base 7 "fold" (spFold C) [] := by
  refine cal_mk F hm (fun _ _ _ _ _ _ us hl => match us, hl with | [_, _, _], _ => rfl) sc_fo (fun vs H Q E h => ?_) (fun cdv A outer s H vs Q E hr h => ?_)
  · obtain ⟨x, n, a, b, ps, rfl, _⟩ := h
    rfl
  · obtain ⟨x, n, a, b, ps, rfl, hw, hc, q⟩ := h
    refine ⟨_, pss_one (ps_ret (pe_ix ix_tup (C8.pe_c cP hr (by decide) rfl (pa_cons (pv 0) (pa_cons (pv 1) (pa_cons (pv 2) pa_nil)))) pe_int (fun _ _ => rfl))), ?_⟩
    refine ⟨_, rfl, _, rfl, _, rfl, x, n, a, b, ps, rfl, hw, hc, fun t y u v H1 hy s1 ht wy => ?_⟩
    exact ⟨t, _, _, _, rfl, rfl, st_of ht, atI_nat (j := 0) rfl, q y H1 hy s1 wy⟩
end
end AW

set_option maxRecDepth 100000
set_option maxHeartbeats 4000000
namespace AW
open PySem PySem.Spec PyProof.Rows L2
/-! what stays while one list changes; total -/
/-- the list at b is no list of ints, no list of lists of ints -/
structure Odd (H : Hp) (b : Addr) : Prop where
  ex : ∃ bs, H b = some (.lst bs) ∧ (∀ ns : List Nat, bs ≠ ns.map nv) ∧ ∀ nss, ¬ A2 (IsN H) nss bs
theorem IsN.off {H : Hp} {b : Addr} (o : Odd H b) {ns : List Nat} {v : V} (h : IsN H ns v) : IsN (ers b H) ns v := by
  obtain ⟨bs, hb, n1, n2⟩ := o.ex
  obtain ⟨l, e, hl⟩ := h
  refine ⟨l, e, ?_⟩
  show ers b H l = _
  rw [ers_ne (fun z => by
    rw [z] at hl
    have hl : H b = some (.lst (ns.map nv)) := hl
    rw [hb] at hl
    injection hl with hl
    injection hl with hl
    exact n1 ns hl)]
  exact hl
theorem LL.odd {H : Hp} {b a : Addr} (o : Odd H b) {nss : List (List Nat)} (h : LL H a nss) : LL (ers b H) a nss := by
  obtain ⟨vs, h1, h2⟩ := h
  refine ⟨vs, ?_, h2.mono fun _ _ => IsN.off o⟩
  obtain ⟨bs, hb, n1, n2⟩ := o.ex
  rw [ers_ne (fun z => by
    rw [z] at h1
    rw [hb] at h1
    injection h1 with h1
    injection h1 with h1
    rw [h1] at n2
    exact n2 _ h2)]
  exact h1
theorem PT.offL {H : Hp} {b a : Addr} {bs : List V} (hb : H b = some (.lst bs)) {ps : List (Nat × Nat)} (h : PT H a ps) : PT (ers b H) a ps := by
  obtain ⟨vs, h1, h2⟩ := h
  exact ⟨vs, by rw [ers_ne (ne_of h1 hb (by intro z; cases z))]; exact h1, h2.mono fun _ _ => IsP.ers hb⟩
theorem PL.offL {H : Hp} {b a : Addr} {bs : List V} (hb : H b = some (.lst bs)) (hn : a ≠ b) {ps : List (Nat × Nat)} (h : PL H a ps) : PL (ers b H) a ps := by
  obtain ⟨vs, h1, h2⟩ := h
  exact ⟨vs, by rw [ers_ne hn]; exact h1, h2.mono fun _ _ => IsP.ers hb⟩
theorem WebAt.odd {C : Addr} {H : Hp} {b y : Addr} (o : Odd H b) {n : Nat} {ps : List (Nat × Nat)} (h : WebAt C H y n ps) : WebAt C (ers b H) y n ps := by
  obtain ⟨dx, tp, ll, lc, h1, h2, h3, h4⟩ := h.ex
  obtain ⟨bs, hb, _⟩ := o.ex
  exact ⟨⟨dx, tp, ll, lc, by rw [ers_ne (ne_of h1 hb (by intro z; cases z))]; exact h1, h2.offL hb, h3.odd o, h4.odd o⟩, h.good, h.hn, h.hl⟩
theorem ers_none {H : Hp} {b : Addr} (h : H b = none) : ers b H = H := by
  funext c
  unfold ers
  split
  · rename_i e
    rw [e, h]
  · rfl
theorem same_ers {H H' : Hp} {b : Addr} (s : Same H H') (h : H b = none) : Same H (ers b H') := fun c o e => by
  rw [ers_ne (ne_of_none e h)]
  exact s c o e
theorem ers_upd_eq {H : Hp} {b : Addr} {o : HO} : ers b (upd H b o) = ers b H := by
  funext c
  unfold ers
  split
  · rfl
  · rename_i e
    exact upd_ne e
/-- a list of folds, not empty, is odd -/
theorem odd_folds {H : Hp} {b : Addr} {v : V} {r : List V} {p : Nat × Nat} (hb : H b = some (.lst (v :: r))) (hv : IsP H p v) : Odd H b := by
  obtain ⟨t, rfl, ht⟩ := hv
  refine ⟨_, hb, fun ns e => ?_, fun nss h => ?_⟩
  · cases ns with
    | nil => cases e
    | cons a r =>
      injection e with e1 e2
      cases e1
  · cases h with
    | cons h1 h2 =>
      obtain ⟨l, e, hl⟩ := h1
      cases e
      have hl : H t = some (.lst _) := hl
      rw [ht] at hl
      cases hl
def spTotal (C : Addr) : Sp := fun vs H Q _ => ∃ (x : Addr) (n : Nat) (ps : List (Nat × Nat)), vs = [.ref x] ∧ WebAt C H x n ps ∧
  ∀ t y fl m (us : List V) (qs : List (Nat × Nat)) H', Same H H' → H' t = some (.tup [.ref y, .ref fl]) → WebAt C H' y m qs → AF.Chain n ps m qs → AF.NoFold m qs → H' fl = some (.lst us) → us.length + m = n → Q (.ref t) H'
abbrev Nto : List Str := ["web", "folds", "pairs"]
section
variable {P : Program} {w : World} {K : PySem.W.Frag} {mg : Str → Option Value} {base : Heap} {f C : Addr} {fd : FuncData}
theorem sc_to : FnScope Nto ["web"] (defScope (top 26)) := ⟨rfl, rfl, rfl, by decide +kernel, rfl, by decide +kernel, by decide +kernel⟩
theorem ok_total (B : Bn mg) (F : FnP K "total" "total" (top 26) f fd) (hm : mg "total" = some (.ref f)) (cF : C8.Cal P w K mg base 5 "folds_of" (spFolds C) []) (cD : C8.Cal P w K mg base 7 "fold" (spFold C) []) : C8.Cal P w K mg base 8 "total" (spTotal C) [] := by
  refine cal_mk F hm (fun _ _ _ _ _ _ us hl => match us, hl with | [_], _ => rfl) sc_to (fun vs H Q E h => ?_) (fun cdv A outer s H vs Q E hr h => ?_)
  · obtain ⟨x, n, ps, rfl, _⟩ := h
    rfl
  · obtain ⟨x, n, ps, rfl, hw, q⟩ := h
    refine ⟨_, pss_cons (ps_set (i := 1) sc_to.nd rfl (Or.inl rfl) (pe_lst pa_nil))
      (pss_cons (ps_set (i := 2) sc_to.nd rfl (Or.inl rfl) (C8.pe_c cF hr (by decide) rfl (pa_cons (pv 0) pa_nil)))
      (pss_cons (ps_while PassesOwn.never (pt_cmpR op_gt (pe_callB call_len_seq (by rfl) B.len (by decide +kernel) (pa_cons (pv 2) pa_nil)) pe_int (nomark _))
        (pss_cons (ps_expr (pe_bm PySem.F.plainAttrs_list PySem.F.slot_list_append PySem.F.type_list_append mt_append (pv 1) (pa_cons (pe_ix ix_list (pv 2) pe_int (fun _ _ => rfl)) pa_nil)))
        (pss_cons (ps_set (i := 0) sc_to.nd rfl (Or.inl rfl) (C8.pe_c cD hr (by decide) rfl (pa_cons (pv 0) (pa_cons (pe_ix ix_tup (pe_ix ix_list (pv 2) pe_int (fun _ _ => rfl)) pe_int (fun _ _ => rfl)) (pa_cons (pe_ix ix_tup (pe_ix ix_list (pv 2) pe_int (fun _ _ => rfl)) pe_int (fun _ _ => rfl)) pa_nil)))))
        (pss_one (ps_set (i := 2) sc_to.nd rfl (Or.inl rfl) (C8.pe_c cF hr (by decide) rfl (pa_cons (pv 0) pa_nil)))))))
      (pss_one (ps_ret (pe_tup (pa_cons (pv 0) (pa_cons (pv 1) pa_nil))))))), ?_⟩
    -- folds = []
    refine ⟨Nat.zero_le _, fun fl hfl => ?_⟩
    have s0 : Same H (upd H fl (.lst [])) := same_new hfl
    have hf0 : (upd H fl (.lst [])) fl = some (.lst []) := upd_same
    have w0 : WebAt C (ers fl (upd H fl (.lst []))) x n ps := by
      rw [ers_upd_eq, ers_none hfl]
      exact hw
    generalize upd H fl (.lst []) = H0 at s0 hf0 w0 ⊢
    have sk0 : Same H (ers fl H0) := same_ers s0 hfl
    -- pairs = folds_of(web)
    refine ⟨_, rfl, x, n, ps, rfl, hw.mono s0, fun ks pp H1 hpp s1 hk hq1 hq2 hkl => ?_⟩
    have hnp : pp ≠ fl := Ne.symm (ne_of_none hf0 hpp)
    -- while
    refine ⟨fun m σ H' => ∃ (y pp : Addr) (qs ks : List (Nat × Nat)) (fs : List V), σ = [some (.ref y), some (.ref fl), some (.ref pp)] ∧ Same H (ers fl H') ∧ WebAt C (ers fl H') y m qs ∧ AF.Chain n ps m qs ∧ H' fl = some (.lst fs) ∧ fs.length + m = n ∧ (∀ v ∈ fs, ∃ p, IsP (ers fl H') p v) ∧
        PL (ers fl H') pp ks ∧ (∀ q ∈ ks, AF.CanFold m qs q.1 q.2) ∧ (ks = [] → AF.NoFold m qs) ∧ ks.length ≤ 100000,
      ⟨n, x, pp, ps, ks, [], rfl, same_ers (s0.trans s1) hfl, w0.mono (ers_mono s1), .nil, s1 fl _ hf0, Nat.zero_add n, (fun _ h => by cases h), hk.offL (s1 fl _ hf0) hnp, hq1, hq2, hkl⟩, ?_⟩
    rintro m σ H2 ⟨y, pp, qs, ks, fs, rfl, s2, w2, ch, hf2, hlen, hfp, hk2, hq1, hq2, hkl⟩
    have hn := hw.hn
    obtain ⟨vs2, hv2, ha2⟩ := hk2
    have hv2' := ers_same (D := fl) pp _ hv2
    have hlv : vs2.length = ks.length := ha2.len.symm
    refine ⟨_, rfl, pp, vs2, rfl, .inl (sq_of hv2'), (vs2.length : Int), 0, rfl, rfl, _, rfl, ?_⟩
    cases ks with
    | nil =>
      have e : decide ((0 : Int) < (vs2.length : Int)) = false := decide_eq_false (by rw [hlv]; exact Int.lt_irrefl 0)
      rw [e]
      refine iteF ?_
      refine ⟨_, rfl, _, rfl, (show 2 ≤ sizeLine by decide), fun t ht => q t y fl m fs qs _ ?_ upd_same ((w2.mono ers_same).mono (same_new ht)) ch (hq2 rfl) ?_ hlen⟩
      · exact (s2.trans ers_same).trans (same_new ht)
      · exact same_new ht fl _ hf2
    | cons k ks =>
      obtain ⟨a, b⟩ := k
      cases ha2 with
      | @cons _ v _ vr hv hvr =>
        have e : decide ((0 : Int) < ((v :: vr).length : Int)) = true := decide_eq_true (by rw [List.length_cons]; omega)
        rw [e]
        refine iteT ?_
        have cf := hq1 (a, b) (List.mem_cons_self ..)
        have hab : a < b := cf.1
        have hbm : b < m := cf.2.1
        obtain ⟨t, rfl, ht⟩ := hv
        have ht' := ers_same (D := fl) t _ ht
        refine ⟨fun σ' H' => ∃ m', m' < m ∧ _, fun _ _ h => h, ?_⟩
        -- folds.append(pairs[0])
        refine ⟨_, rfl, .inl ⟨rfl, fs, sq_of hf2⟩, _, rfl, pp, _, _, _, rfl, rfl, sq_of hv2', atI_nat (j := 0) rfl, fl, fs, _, rfl, rfl, hf2, sz_lt (by omega), ?_⟩
        have s3 : Same (ers fl H2) (upd H2 fl (.lst (fs ++ [.ref t]))) := by
          intro c o e'
          have hc : c ≠ fl := fun z => by
            rw [z] at e'
            unfold ers at e'
            rw [if_pos rfl] at e'
            cases e'
          rw [upd_ne hc]
          exact ers_same c o e'
        have hf3 : (upd H2 fl (.lst (fs ++ [.ref t]))) fl = some (.lst (fs ++ [.ref t])) := upd_same
        generalize upd H2 fl (.lst (fs ++ [.ref t])) = H3 at s3 hf3 ⊢
        have w3 := w2.mono s3
        have hv3 := s3 pp _ hv2
        have ht3 := s3 t _ ht
        -- web = fold(web, pairs[0][0], pairs[0][1])
        refine ⟨_, rfl, _, rfl, pp, _, _, _, rfl, rfl, sq_of hv3, atI_nat (j := 0) rfl, t, _, _, _, rfl, rfl, st_of ht3, atI_nat (j := 0) rfl, _, rfl, pp, _, _, _, rfl, rfl, sq_of hv3, atI_nat (j := 0) rfl, t, _, _, _, rfl, rfl, st_of ht3, atI_nat (j := 1) rfl,
          y, m, a, b, qs, rfl, w3, cf, fun y' H4 hy' s4 w4 => ?_⟩
        -- pairs = folds_of(web)
        refine ⟨_, rfl, y', m - 1, AF.foldW qs a b, rfl, w4, fun ks' pp' H5 hpp' s5 hk5 hq1' hq2' hkl' => ?_⟩
        have hf5 := s5 fl _ (s4 fl _ hf3)
        have hp5 : IsP H5 (a, b) (.ref t) := ⟨t, rfl, s5 t _ (s4 t _ ht3)⟩
        have hodd : Odd H5 fl := by
          cases fs with
          | nil => exact odd_folds hf5 hp5
          | cons f0 fr =>
            obtain ⟨p, z⟩ := hfp f0 (List.mem_cons_self ..)
            exact odd_folds hf5 (((z.mono s3).mono s4).mono s5)
        refine ⟨m - 1, by omega, y', pp', AF.foldW qs a b, ks', fs ++ [.ref t], rfl, ?_, (w4.mono s5).odd hodd, ch.snoc cf, hf5, ?_, ?_, hk5.offL hf5 ?_, hq1', hq2', hkl'⟩
        · exact same_ers (((s2.trans s3).trans s4).trans s5) hfl
        · rw [List.length_append, List.length_singleton]
          omega
        · intro v hv
          rcases List.mem_append.mp hv with h | h
          · obtain ⟨p, z⟩ := hfp v h
            exact ⟨p, (((z.mono s3).mono s4).mono s5).ers hf5⟩
          · rw [List.mem_singleton.mp h]
            exact ⟨_, hp5.ers hf5⟩
        · exact Ne.symm (ne_of_none (s4 fl _ hf3) hpp')
end
end AW

set_option maxRecDepth 100000
set_option maxHeartbeats 4000000
namespace AW
open PySem PySem.Spec PyProof.Rows L2
/-! the bag; _law_pull, _law_of -/
def bagL (s : Addr) (p q r t : Int) : List V := [.ref s, .int p, .int q, .int r, .int t]
structure BagAt (H : Hp) (b s : Addr) : Prop where
  ex : ∃ (xs : List Int) (p q r t : Int), H b = some (.lst (bagL s p q r t)) ∧ 0 ≤ p ∧ H s = some (.lst (xs.map V.int))
/-- all but the bag stays -/
abbrev Keep (b : Addr) (H H' : Hp) : Prop := Same (ers b H) (ers b H')
theorem Keep.of {b : Addr} {H H' : Hp} (s : Same H H') : Keep b H H' := ers_mono s
theorem BagAt.mono {H H' : Hp} {b c : Addr} (s : Same H H') (h : BagAt H b c) : BagAt H' b c := by
  obtain ⟨xs, p, q, r, t, h1, h2, h3⟩ := h.ex
  exact ⟨xs, p, q, r, t, s _ _ h1, h2, s _ _ h3⟩
theorem BagAt.upd {H : Hp} {b c a : Addr} {o : HO} (h : BagAt H b c) (h1 : a ≠ b) (h2 : a ≠ c) : BagAt (upd H a o) b c := by
  obtain ⟨xs, p, q, r, t, h3, h4, h5⟩ := h.ex
  exact ⟨xs, p, q, r, t, by rw [upd_ne (Ne.symm h1)]; exact h3, h4, by rw [upd_ne (Ne.symm h2)]; exact h5⟩
theorem BagAt.odd {H : Hp} {b c : Addr} (h : BagAt H b c) : Odd H b := by
  obtain ⟨xs, p, q, r, t, h1, h2, h3⟩ := h.ex
  refine ⟨_, h1, fun ns e => ?_, fun nss z => ?_⟩
  · cases ns with
    | nil => cases e
    | cons a r =>
      injection e with e1 e2
      cases e1
  · cases z with
    | cons z1 z2 =>
      cases z2 with
      | cons z3 z4 =>
        obtain ⟨l, e, _⟩ := z3
        cases e
theorem BagAt.lst {H : Hp} {b c : Addr} (h : BagAt H b c) : ∃ bs, H b = some (.lst bs) := by
  obtain ⟨xs, p, q, r, t, h1, h2, h3⟩ := h.ex
  exact ⟨_, h1⟩
theorem bag_ne {H : Hp} {b s s' : Addr} {xs : List Int} {p q r t : Int} (h1 : H b = some (.lst (bagL s' p q r t))) (h3 : H s = some (.lst (xs.map V.int))) : s ≠ b := fun z => by
  rw [z, h1] at h3
  injection h3 with h3
  injection h3 with h3
  cases xs with
  | nil => cases h3
  | cons a r =>
    injection h3 with e1 e2
    cases e1
def spPull : Sp := fun vs H Q _ => ∃ (b s : Addr) (n : Nat), vs = [.ref b, nv n] ∧ BagAt H b s ∧ 1 ≤ n ∧ n ≤ 100000 ∧ ∀ (k : Nat) H', k < n → Keep b H H' → BagAt H' b s → Q (nv k) H'
abbrev Npu : List Str := ["_law_bag_here", "_law_many", "_law_rest", "_law_cell", "_law_one", "_law_two"]
section
variable {P : Program} {w : World} {K : PySem.W.Frag} {mg : Str → Option Value} {base : Heap} {f C : Addr} {fd : FuncData}
theorem sc_pull : FnScope Npu ["_law_bag_here", "_law_many"] (defScope (top 29)) := ⟨rfl, rfl, rfl, by decide +kernel, rfl, by decide +kernel, by decide +kernel⟩
theorem ok_pull (B : Bn mg) (F : FnP K "_law_pull" "_law_pull" (top 29) f fd) (hm : mg "_law_pull" = some (.ref f)) : C8.Cal P w K mg base 1 "_law_pull" spPull [] := by
  refine cal_mk F hm (fun _ _ _ _ _ _ us hl => match us, hl with | [_, _], _ => rfl) sc_pull (fun vs H Q E h => ?_) (fun cdv A outer s H vs Q E hr h => ?_)
  · obtain ⟨b, s, n, rfl, _⟩ := h
    rfl
  · obtain ⟨b, s, n, rfl, hb, hn1, hn2, q⟩ := h
    obtain ⟨xs, p, d, r, t, h1, hp, h3⟩ := hb.ex
    have hsb := bag_ne h1 h3
    refine ⟨_, pss_cons (ps_augS (pv 0) pe_int get_list pe_int ip_add set_list)
      (pss_cons (ps_if (pt_cmpR op_gt (pe_ix ix_list (pv 0) pe_int (fun _ _ => rfl)) pe_int (nomark _))
        (pss_cons (ps_set (i := 2) sc_pull.nd rfl (Or.inl rfl) (pe_ix ix_list (pv 0) pe_int (fun _ _ => rfl)))
        (pss_cons (ps_asg (pe_op op_fdiv (pv 2) (pv 1)) (pg_sub (pv 0) pe_int set_list))
        (pss_one (ps_ret (pe_op op_mod (pv 2) (pv 1)))))) pss_nil)
      (pss_cons (ps_set (i := 3) sc_pull.nd rfl (Or.inl rfl) (pe_ix ix_list (pv 0) pe_int (fun _ _ => rfl)))
      (pss_cons (ps_if (pt_cmpR op_lt (pe_ix ix_list (pv 0) pe_int (fun _ _ => rfl)) (pe_callB call_len_seq (by rfl) B.len (by decide +kernel) (pa_cons (pe_ix ix_list (pv 0) pe_int (fun _ _ => rfl)) pa_nil)) (nomark _))
        (pss_cons (ps_set (i := 3) sc_pull.nd rfl (Or.inl rfl) (pe_ix ix_list (pe_ix ix_list (pv 0) pe_int (fun _ _ => rfl)) (pe_ix ix_list (pv 0) pe_int (fun _ _ => rfl)) (fun _ _ => rfl)))
        (pss_one (ps_augS (pv 0) pe_int get_list pe_int ip_add set_list))) pss_nil)
      (pss_cons (ps_if (pt_cmpR op_ge (pv 3) (pe_op op_pow pe_int pe_int) (nomark _))
        (pss_cons (ps_asg (pe_op op_fdiv (pv 3) (pv 1)) (pg_sub (pv 0) pe_int set_list))
        (pss_one (ps_ret (pe_op op_mod (pv 3) (pv 1))))) pss_nil)
      (pss_cons (ps_set (i := 4) sc_pull.nd rfl (Or.inl rfl) (pe_op op_mod (pe_op op_add (pe_op op_add (pe_op op_add (pe_op op_mul (pv 3) pe_int) (pe_op op_mul (pe_ix ix_list (pv 0) pe_int (fun _ _ => rfl)) pe_int)) (pe_op op_mul (pe_ix ix_list (pv 0) pe_int (fun _ _ => rfl)) pe_int)) pe_int) pe_int))
      (pss_cons (ps_set (i := 5) sc_pull.nd rfl (Or.inl rfl) (pe_op op_mod (pe_op op_add (pe_op op_add (pe_op op_mul (pv 4) (pe_op op_add (pe_op op_mod (pv 4) pe_int) pe_int)) (pe_op op_mul (pe_ix ix_list (pv 0) pe_int (fun _ _ => rfl)) pe_int)) (pe_op op_mod (pe_ix ix_list (pv 0) pe_int (fun _ _ => rfl)) pe_int)) pe_int))
      (pss_cons (ps_asg (pe_op op_mod (pe_op op_add (pe_op op_mul (pe_ix ix_list (pv 0) pe_int (fun _ _ => rfl)) pe_int) (pv 5)) pe_int) (pg_sub (pv 0) pe_int set_list))
      (pss_one (ps_ret (pe_op op_mod (pe_op op_fdiv (pv 5) pe_int) (pv 1))))))))))), ?_⟩
    have sz5 : ∀ x y z u v : V, ([x, y, z, u, v] : List V).length = 5 := fun _ _ _ _ _ => rfl
    -- bag[4] += 1
    refine ⟨_, rfl, b, _, 4, .int t, rfl, rfl, sq_of h1, rfl, _, _, rfl, rfl, b, _, 4, 4, rfl, rfl, h1, rfl, ?_⟩
    generalize hH1 : upd H b (.lst _) = H1
    have hb1 : H1 b = some (.lst (bagL s p d r (t + 1))) := by rw [← hH1]; exact upd_same
    have k1 : Keep b H H1 := by rw [← hH1]; exact ers_upd
    have hs1 : H1 s = some (.lst (xs.map V.int)) := by rw [← hH1, upd_ne hsb]; exact h3
    clear hH1 h1 h3
    have nn : (0 : Int) < (n : Int) := by omega
    have fin : ∀ (z : Int) (H' : Hp), Keep b H H' → BagAt H' b s → Q (.int (z % (n : Int))) H' := fun z H' k' b' => by
      have e0 := Int.emod_nonneg z (show (n : Int) ≠ 0 by omega)
      have e1 := Int.emod_lt_of_pos z nn
      obtain ⟨k, hk⟩ := Int.eq_ofNat_of_zero_le e0
      rw [hk]
      exact q k H' (by omega) k' b'
    -- if bag[2] > 0
    refine ⟨_, rfl, b, _, _, _, rfl, rfl, sq_of hb1, atI_nat (j := 2) rfl, _, _, rfl, rfl, _, rfl, ?_⟩
    by_cases hd : (0 : Int) < d
    · rw [decide_eq_true hd]
      refine iteT ?_
      refine ⟨_, rfl, b, _, _, _, rfl, rfl, sq_of hb1, atI_nat (j := 2) rfl, ?_⟩
      refine ⟨_, rfl, _, rfl, _, _, rfl, rfl, ⟨nn, by show (n : Int) < 1073741824; omega⟩, _, rfl, b, _, 2, 2, rfl, rfl, hb1, rfl, ?_⟩
      generalize hH2 : upd H1 b (.lst _) = H2
      have hb2 : H2 b = some (.lst (bagL s p (d / (n : Int)) r (t + 1))) := by rw [← hH2]; exact upd_same
      have k2 : Keep b H1 H2 := by rw [← hH2]; exact ers_upd
      have hs2 : H2 s = some (.lst (xs.map V.int)) := by rw [← hH2, upd_ne hsb]; exact hs1
      exact ⟨_, rfl, _, rfl, _, _, rfl, rfl, nn, fin d H2 (k1.trans k2) ⟨xs, p, _, r, _, hb2, hp, hs2⟩⟩
    · rw [decide_eq_false hd]
      refine iteF ?_
      -- cell = bag[3]
      refine ⟨_, rfl, b, _, _, _, rfl, rfl, sq_of hb1, atI_nat (j := 3) rfl, ?_⟩
      -- if bag[1] < len(bag[0])
      refine ⟨_, rfl, b, _, _, _, rfl, rfl, sq_of hb1, atI_nat (j := 1) rfl, _, rfl, b, _, _, _, rfl, rfl, sq_of hb1, atI_nat (j := 0) rfl, s, _, rfl, .inl (sq_of hs1), _, _, rfl, rfl, _, rfl, ?_⟩
      by_cases hl : p < ((xs.map V.int).length : Int)
      · rw [decide_eq_true hl]
        refine iteT ?_
        obtain ⟨j, rfl⟩ := Int.eq_ofNat_of_zero_le hp
        have hj : j < xs.length := by rw [List.length_map] at hl; omega
        have gj : (xs.map V.int)[j]? = some (.int xs[j]) := by rw [List.getElem?_map, List.getElem?_eq_getElem hj]; rfl
        refine ⟨_, rfl, b, _, _, _, rfl, rfl, sq_of hb1, atI_nat (j := 0) rfl, _, rfl, b, _, _, _, rfl, rfl, sq_of hb1, atI_nat (j := 1) rfl, s, _, _, _, rfl, rfl, sq_of hs1, atI_nat gj, ?_⟩
        refine ⟨_, rfl, b, _, 1, .int (j : Int), rfl, rfl, sq_of hb1, rfl, _, _, rfl, rfl, b, _, 1, 1, rfl, rfl, hb1, rfl, ?_⟩
        generalize hH2 : upd H1 b (.lst _) = H2
        have hb2 : H2 b = some (.lst (bagL s ((j : Int) + 1) d r (t + 1))) := by rw [← hH2]; exact upd_same
        have k2 : Keep b H H2 := by rw [← hH2]; exact k1.trans ers_upd
        have hs2 : H2 s = some (.lst (xs.map V.int)) := by rw [← hH2, upd_ne hsb]; exact hs1
        have hp' : (0 : Int) ≤ (j : Int) + 1 := by omega
        clear hH2 hb1
        generalize (j : Int) + 1 = p' at hb2 hp'
        generalize xs[j] = c
        -- if cell >= 10 ** 18
        refine ⟨_, rfl, _, _, rfl, rfl, ⟨by decide, by decide, by decide⟩, _, _, rfl, rfl, _, rfl, ?_⟩
        generalize decide ((_ : Int) ≤ _) = big
        cases big with
        | true =>
          refine iteT ?_
          refine ⟨_, rfl, _, rfl, _, _, rfl, rfl, ⟨nn, by show (n : Int) < 1073741824; omega⟩, _, rfl, b, _, 2, 2, rfl, rfl, hb2, rfl, ?_⟩
          generalize hH3 : upd H2 b (.lst _) = H3
          have hb3 : H3 b = some (.lst (bagL s p' (c / (n : Int)) r (t + 1))) := by rw [← hH3]; exact upd_same
          have k3 : Keep b H2 H3 := by rw [← hH3]; exact ers_upd
          have hs3 : H3 s = some (.lst (xs.map V.int)) := by rw [← hH3, upd_ne hsb]; exact hs2
          exact ⟨_, rfl, _, rfl, _, _, rfl, rfl, nn, fin c H3 (k2.trans k3) ⟨xs, p', _, r, _, hb3, hp', hs3⟩⟩
        | false =>
          refine iteF ?_
          refine ⟨_, rfl, _, _, rfl, rfl, Or.inr ⟨by decide, by decide⟩, _, rfl, b, _, _, _, rfl, rfl, sq_of hb2, atI_nat (j := 3) rfl, _, _, rfl, rfl, Or.inr ⟨by decide, by decide⟩, _, _, rfl, rfl, _, rfl, b, _, _, _, rfl, rfl, sq_of hb2, atI_nat (j := 4) rfl, _, _, rfl, rfl, Or.inr ⟨by decide, by decide⟩, _, _, rfl, rfl, _, _, rfl, rfl, _, _, rfl, rfl, (by show (0 : Int) < _; decide), ?_⟩
          refine ⟨_, rfl, _, rfl, _, _, rfl, rfl, (by show (0 : Int) < _; decide), _, _, rfl, rfl, _, _, rfl, rfl, Or.inl ⟨Int.lt_of_lt_of_le (by decide) (Int.emod_nonneg _ (by decide)), Int.lt_trans (Int.emod_lt_of_pos _ (by decide)) (by decide)⟩, _, rfl, b, _, _, _, rfl, rfl, sq_of hb2, atI_nat (j := 4) rfl, _, _, rfl, rfl, Or.inr ⟨by decide, by decide⟩, _, _, rfl, rfl,
            _, rfl, b, _, _, _, rfl, rfl, sq_of hb2, atI_nat (j := 3) rfl, _, _, rfl, rfl, (by show (0 : Int) < _; decide), _, _, rfl, rfl, _, _, rfl, rfl, (by show (0 : Int) < _; decide), ?_⟩
          refine ⟨_, rfl, b, _, _, _, rfl, rfl, sq_of hb2, atI_nat (j := 3) rfl, _, _, rfl, rfl, Or.inr ⟨by decide, by decide⟩, _, rfl, _, _, rfl, rfl, _, _, rfl, rfl, (by show (0 : Int) < _; decide), _, rfl, b, _, 3, 3, rfl, rfl, hb2, rfl, ?_⟩
          generalize hH3 : upd H2 b (.lst _) = H3
          have hb3 : ∃ r', H3 b = some (.lst (bagL s p' d r' (t + 1))) := ⟨_, by rw [← hH3]; exact upd_same⟩
          have k3 : Keep b H2 H3 := by rw [← hH3]; exact ers_upd
          have hs3 : H3 s = some (.lst (xs.map V.int)) := by rw [← hH3, upd_ne hsb]; exact hs2
          obtain ⟨r', hb3⟩ := hb3
          exact ⟨_, rfl, _, _, rfl, rfl, ⟨by decide, by decide⟩, _, rfl, _, _, rfl, rfl, nn, fin _ H3 (k2.trans k3) ⟨xs, p', d, r', _, hb3, hp', hs3⟩⟩
      · rw [decide_eq_false hl]
        refine iteF ?_
        have hb2 := hb1
        have k2 := k1
        have hs2 := hs1
        have hp' := hp
        clear k1 hs1 hb1 hl hp
        generalize p = p' at hb2 hp'
        generalize H1 = H2 at hb2 hs2 k2 ⊢
        -- if cell >= 10 ** 18
        refine ⟨_, rfl, _, _, rfl, rfl, ⟨by decide, by decide, by decide⟩, _, _, rfl, rfl, _, rfl, ?_⟩
        generalize decide ((_ : Int) ≤ _) = big
        cases big with
        | true =>
          refine iteT ?_
          refine ⟨_, rfl, _, rfl, _, _, rfl, rfl, ⟨nn, by show (n : Int) < 1073741824; omega⟩, _, rfl, b, _, 2, 2, rfl, rfl, hb2, rfl, ?_⟩
          generalize hH3 : upd H2 b (.lst _) = H3
          have hb3 : H3 b = some (.lst (bagL s p' (r / (n : Int)) r (t + 1))) := by rw [← hH3]; exact upd_same
          have k3 : Keep b H2 H3 := by rw [← hH3]; exact ers_upd
          have hs3 : H3 s = some (.lst (xs.map V.int)) := by rw [← hH3, upd_ne hsb]; exact hs2
          exact ⟨_, rfl, _, rfl, _, _, rfl, rfl, nn, fin r H3 (k2.trans k3) ⟨xs, p', _, r, _, hb3, hp', hs3⟩⟩
        | false =>
          refine iteF ?_
          refine ⟨_, rfl, _, _, rfl, rfl, Or.inr ⟨by decide, by decide⟩, _, rfl, b, _, _, _, rfl, rfl, sq_of hb2, atI_nat (j := 3) rfl, _, _, rfl, rfl, Or.inr ⟨by decide, by decide⟩, _, _, rfl, rfl, _, rfl, b, _, _, _, rfl, rfl, sq_of hb2, atI_nat (j := 4) rfl, _, _, rfl, rfl, Or.inr ⟨by decide, by decide⟩, _, _, rfl, rfl, _, _, rfl, rfl, _, _, rfl, rfl, (by show (0 : Int) < _; decide), ?_⟩
          refine ⟨_, rfl, _, rfl, _, _, rfl, rfl, (by show (0 : Int) < _; decide), _, _, rfl, rfl, _, _, rfl, rfl, Or.inl ⟨Int.lt_of_lt_of_le (by decide) (Int.emod_nonneg _ (by decide)), Int.lt_trans (Int.emod_lt_of_pos _ (by decide)) (by decide)⟩, _, rfl, b, _, _, _, rfl, rfl, sq_of hb2, atI_nat (j := 4) rfl, _, _, rfl, rfl, Or.inr ⟨by decide, by decide⟩, _, _, rfl, rfl,
            _, rfl, b, _, _, _, rfl, rfl, sq_of hb2, atI_nat (j := 3) rfl, _, _, rfl, rfl, (by show (0 : Int) < _; decide), _, _, rfl, rfl, _, _, rfl, rfl, (by show (0 : Int) < _; decide), ?_⟩
          refine ⟨_, rfl, b, _, _, _, rfl, rfl, sq_of hb2, atI_nat (j := 3) rfl, _, _, rfl, rfl, Or.inr ⟨by decide, by decide⟩, _, rfl, _, _, rfl, rfl, _, _, rfl, rfl, (by show (0 : Int) < _; decide), _, rfl, b, _, 3, 3, rfl, rfl, hb2, rfl, ?_⟩
          generalize hH3 : upd H2 b (.lst _) = H3
          have hb3 : ∃ r', H3 b = some (.lst (bagL s p' d r' (t + 1))) := ⟨_, by rw [← hH3]; exact upd_same⟩
          have k3 : Keep b H2 H3 := by rw [← hH3]; exact ers_upd
          have hs3 : H3 s = some (.lst (xs.map V.int)) := by rw [← hH3, upd_ne hsb]; exact hs2
          obtain ⟨r', hb3⟩ := hb3
          exact ⟨_, rfl, _, _, rfl, rfl, ⟨by decide, by decide⟩, _, rfl, _, _, rfl, rfl, nn, fin _ H3 (k2.trans k3) ⟨xs, p', d, r', _, hb3, hp', hs3⟩⟩
end
end AW

set_option maxRecDepth 100000
set_option maxHeartbeats 4000000
namespace AW
open PySem PySem.Spec PyProof.Rows L2
/-! _law_of, _law_mixed -/
theorem keep_at {H H' : Hp} {b a : Addr} {o : HO} (k : Keep b H H') (h : ers b H a = some o) : H' a = some o := ers_same a o (k a o h)
theorem ers_at {H : Hp} {b a : Addr} {o : HO} (h : H a = some o) (hn : a ≠ b) : ers b H a = some o := by
  rw [ers_ne hn]
  exact h
theorem BagAt.at {H : Hp} {b s : Addr} (h : BagAt H b s) : H b ≠ none ∧ H s ≠ none := by
  obtain ⟨xs, p, q, r, t, h1, h2, h3⟩ := h.ex
  exact ⟨fun z => (by rw [h1] at z; cases z), fun z => (by rw [h3] at z; cases z)⟩
/-- what was not there is neither the bag nor its script -/
theorem BagAt.new {H : Hp} {b s a : Addr} (h : BagAt H b s) (ha : H a = none) : a ≠ b ∧ a ≠ s :=
  ⟨fun z => h.at.1 (by rw [← z]; exact ha), fun z => h.at.2 (by rw [← z]; exact ha)⟩
def spOf : Sp := fun vs H Q _ => ∃ (b s l : Addr) (xs : List V), vs = [.ref b, .ref l] ∧ BagAt H b s ∧ ers b H l = some (.lst xs) ∧ 1 ≤ xs.length ∧ xs.length ≤ 100000 ∧
  ∀ (k : Nat) v H', xs[k]? = some v → Keep b H H' → BagAt H' b s → Q v H'
def spMixed : Sp := fun vs H Q _ => ∃ (b s l : Addr) (xs : List V), vs = [.ref b, .ref l] ∧ BagAt H b s ∧ ers b H l = some (.lst xs) ∧ xs.length ≤ 100000 ∧
  ∀ p ys H', H p = none → Keep b H H' → BagAt H' b s → H' p = some (.lst ys) → ys.Perm xs → Q (.ref p) H'
abbrev Nmi : List Str := ["_law_bag_here", "_law_some", "_law_left", "_law_found", "_law_k"]
theorem perm_erase {α : Type} {xs : List α} {k : Nat} {x : α} (h : xs[k]? = some x) : (x :: xs.eraseIdx k).Perm xs := by
  induction xs generalizing k with
  | nil => simp at h
  | cons y r ih =>
    cases k with
    | zero =>
      simp at h
      subst h
      exact .refl _
    | succ k =>
      have z := ih (k := k) (by simpa using h)
      rw [List.eraseIdx_cons_succ]
      exact (List.Perm.swap _ _ _).trans (z.cons y)
section
variable {P : Program} {w : World} {K : PySem.W.Frag} {mg : Str → Option Value} {base : Heap} {f C : Addr} {fd : FuncData}
theorem sc_of : FnScope ["_law_bag_here", "_law_some"] ["_law_bag_here", "_law_some"] (defScope (top 30)) := ⟨rfl, rfl, rfl, by decide +kernel, rfl, by decide +kernel, by decide +kernel⟩
theorem ok_of (B : Bn mg) (F : FnP K "_law_of" "_law_of" (top 30) f fd) (hm : mg "_law_of" = some (.ref f)) (cP : C8.Cal P w K mg base 1 "_law_pull" spPull []) : C8.Cal P w K mg base 2 "_law_of" spOf [] := by
  refine cal_mk F hm (fun _ _ _ _ _ _ us hl => match us, hl with | [_, _], _ => rfl) sc_of (fun vs H Q E h => ?_) (fun cdv A outer s H vs Q E hr h => ?_)
  · obtain ⟨b, s, l, xs, rfl, _⟩ := h
    rfl
  · obtain ⟨b, s, l, xs, rfl, hb, hl, h1, h2, q⟩ := h
    refine ⟨_, pss_one (ps_ret (pe_ix ix_list (pv 1) (C8.pe_c cP hr (by decide) rfl (pa_cons (pv 0) (pa_cons (pe_callB call_len_seq (by rfl) B.len (by decide +kernel) (pa_cons (pv 1) pa_nil)) pa_nil))) (fun _ _ => rfl))), ?_⟩
    refine ⟨_, rfl, _, rfl, _, rfl, l, xs, rfl, .inl (sq_of (ers_same _ _ hl)), b, s, xs.length, rfl, hb, h1, h2, fun k H1 hk k1 b1 => ?_⟩
    have e : xs[k]? = some xs[k] := List.getElem?_eq_getElem hk
    exact ⟨l, xs, _, _, rfl, rfl, sq_of (keep_at k1 hl), atI_nat e, q k _ H1 e k1 b1⟩
theorem sc_mixed : FnScope Nmi ["_law_bag_here", "_law_some"] (defScope (top 32)) := ⟨rfl, rfl, rfl, by decide +kernel, rfl, by decide +kernel, by decide +kernel⟩
theorem ok_mixed (B : Bn mg) (F : FnP K "_law_mixed" "_law_mixed" (top 32) f fd) (hm : mg "_law_mixed" = some (.ref f)) (cP : C8.Cal P w K mg base 1 "_law_pull" spPull []) : C8.Cal P w K mg base 2 "_law_mixed" spMixed [] := by
  refine cal_mk F hm (fun _ _ _ _ _ _ us hl => match us, hl with | [_, _], _ => rfl) sc_mixed (fun vs H Q E h => ?_) (fun cdv A outer s0 H vs Q E hr h => ?_)
  · obtain ⟨b, s, l, xs, rfl, _⟩ := h
    rfl
  · obtain ⟨b, s, l, xs, rfl, hb, hl, hn, q⟩ := h
    refine ⟨_, pss_cons (ps_par (i := 2) (j := 3) rfl sc_mixed.nd rfl rfl (by decide) rfl rfl (pa_cons (pe_callTy call_list_of (by rfl) B.list (by decide +kernel) (pa_cons (pv 1) pa_nil)) (pa_cons (pe_lst pa_nil) pa_nil)) rfl)
      (pss_cons (ps_for PassesOwn.never rfl (pi_range1 rfl B.range (pa_cons (pe_callB call_len_seq (by rfl) B.len (by decide +kernel) (pa_cons (pv 1) pa_nil)) pa_nil)) (pg_name (i := 4) sc_mixed.nd rfl (Or.inl rfl))
        (pss_one (ps_expr (pe_bm PySem.F.plainAttrs_list PySem.F.slot_list_append PySem.F.type_list_append mt_append (pv 3) (pa_cons
          (pe_bm PySem.F.plainAttrs_list PySem.F.slot_list_pop PySem.F.type_list_pop mt_popAt (pv 2) (pa_cons
            (C8.pe_c cP hr (by decide) rfl (pa_cons (pv 0) (pa_cons (pe_callB call_len_seq (by rfl) B.len (by decide +kernel) (pa_cons (pv 2) pa_nil)) pa_nil))) pa_nil)) pa_nil)))))
      (pss_one (ps_ret (pv 3)))), ?_⟩
    have hl' := ers_same _ _ hl
    refine ⟨_, rfl, l, xs, rfl, .inl (sq_of hl'), fun lf hlf => ?_⟩
    refine ⟨Nat.zero_le _, fun fo hfo => ?_⟩
    have s1 : Same H (upd (upd H lf (.lst xs)) fo (.lst [])) := (same_new hlf).trans (same_new hfo)
    have hne : lf ≠ fo := fun z => by
      rw [← z, upd_same] at hfo
      cases hfo
    have hlf1 : (upd (upd H lf (.lst xs)) fo (.lst [])) lf = some (.lst xs) := by rw [upd_ne hne]; exact upd_same
    have hfo1 : (upd (upd H lf (.lst xs)) fo (.lst [])) fo = some (.lst []) := upd_same
    have hfoH : H fo = none := by
      rw [upd_ne (Ne.symm hne)] at hfo
      exact hfo
    generalize upd (upd H lf (.lst xs)) fo (.lst []) = H1 at s1 hlf1 hfo1 ⊢
    have b1 := hb.mono s1
    obtain ⟨nlb, nls⟩ := hb.new hlf
    obtain ⟨nfb, nfs⟩ := hb.new hfoH
    refine ⟨_, _, rfl, ?_⟩
    refine ⟨_, rfl, l, xs, rfl, .inl (sq_of (s1 _ _ hl')), (xs.length : Int), rfl, by omega, by omega, for_it (walk_rangeN (n := xs.length)) (fun i σ H' => ∃ (v4 : Option V) (lv fv : List V), σ = [some (.ref b), some (.ref l), some (.ref lf), some (.ref fo), v4] ∧ Keep b H H' ∧ BagAt H' b s ∧
        H' lf = some (.lst lv) ∧ H' fo = some (.lst fv) ∧ lv.length + i = xs.length ∧ fv.length = i ∧ (fv ++ lv).Perm xs)
      ⟨none, xs, [], rfl, Keep.of s1, b1, hlf1, hfo1, rfl, rfl, .refl _⟩ (fun _ _ _ _ _ => trivial) ?_ ?_⟩
    · rintro i xx σ H2 H3 hi ⟨v4, lv, fv, rfl, k2, b2, hlf2, hfo2, hln, hfn, hpm⟩ ⟨rfl, rfl⟩
      refine ⟨_, rfl, .inl ⟨rfl, _, sq_of hfo2⟩, _, rfl, .inl ⟨rfl, _, sq_of hlf2⟩, _, rfl, _, rfl, lf, lv, rfl, .inl (sq_of hlf2), b, s, lv.length, rfl, b2, by omega, by omega, fun k H4 hk k4 b4 => ?_⟩
      have hlf4 := keep_at k4 (ers_at hlf2 nlb)
      have hfo4 := keep_at k4 (ers_at hfo2 nfb)
      have e : lv[k]? = some lv[k] := List.getElem?_eq_getElem hk
      refine ⟨lf, lv, (k : Int), k, lv[k], rfl, rfl, hlf4, by omega, by omega, ?_, e, ?_⟩
      · rw [seqIndex_of (by omega) (by omega), Int.toNat_natCast]
      · refine ⟨fo, fv, lv[k], rfl, rfl, by rw [upd_ne (Ne.symm hne)]; exact hfo4, sz_lt (by omega), ?_⟩
        refine ⟨_, lv.eraseIdx k, fv ++ [lv[k]], rfl, ?_, (b4.upd nlb nls).upd nfb nfs, by rw [upd_ne hne]; exact upd_same, upd_same, ?_, ?_, ?_⟩
        · intro c o ec
          have hcb : c ≠ b := fun z => by
            rw [z] at ec
            unfold ers at ec
            rw [if_pos rfl] at ec
            cases ec
          have hcH : H c = some o := ers_same c o ec
          rw [ers_ne hcb, upd_ne (ne_of_none hcH hfoH), upd_ne (ne_of_none hcH hlf)]
          exact keep_at k4 (k2 c o ec)
        · have := List.length_eraseIdx_of_lt hk
          omega
        · rw [List.length_append, List.length_singleton]
          omega
        · rw [List.append_assoc]
          exact ((perm_erase e).append_left fv).trans hpm
    · rintro σ H2 ⟨v4, lv, fv, rfl, k2, b2, hlf2, hfo2, hln, hfn, hpm⟩
      have : lv = [] := List.eq_nil_of_length_eq_zero (by omega)
      subst this
      rw [List.append_nil] at hpm
      exact ⟨_, rfl, q fo fv H2 hfoH k2 b2 hfo2 hpm⟩
end
end AW

set_option maxRecDepth 100000
set_option maxHeartbeats 4000000
namespace AW
open PySem PySem.Spec PyProof.Rows L2
/-! tuples stay; _law_outs, _law_ins, _law_web, _law_made, _law_tells -/
def TK (H H' : Hp) : Prop := ∀ c vs, H c = some (.tup vs) → H' c = some (.tup vs)
theorem TK.refl (H : Hp) : TK H H := fun _ _ h => h
theorem TK.trans {H H' H'' : Hp} (h : TK H H') (h' : TK H' H'') : TK H H'' := fun c vs e => h' c vs (h c vs e)
theorem TK.of {H H' : Hp} (s : Same H H') : TK H H' := fun c vs e => s c _ e
theorem TK.upd {H : Hp} {a : Addr} {o : HO} (h : ∀ vs, H a ≠ some (.tup vs)) : TK H (upd H a o) := fun c vs e => by
  rw [upd_ne (fun z => h vs (by rw [← z]; exact e))]
  exact e
theorem TK.lst {H : Hp} {a : Addr} {o : HO} {xs : List V} (h : H a = some (.lst xs)) : TK H (L2.upd H a o) := TK.upd fun vs z => by rw [h] at z; cases z
theorem TK.new {H : Hp} {a : Addr} {o : HO} (h : H a = none) : TK H (L2.upd H a o) := TK.upd fun vs z => by rw [h] at z; cases z
theorem TK.keep {H H' : Hp} {b s : Addr} (hb : BagAt H b s) (k : Keep b H H') : TK H H' := fun c vs e => by
  obtain ⟨bs, h⟩ := hb.lst
  exact keep_at k (ers_at e (ne_of e h (by intro z; cases z)))
theorem IsP.tk {H H' : Hp} {p : Nat × Nat} {v : V} (k : TK H H') (h : IsP H p v) : IsP H' p v := by
  obtain ⟨t, e, h⟩ := h
  exact ⟨t, e, k t _ h⟩
theorem PT.tk {H H' : Hp} {a : Addr} {ps : List (Nat × Nat)} (k : TK H H') (h : PT H a ps) : PT H' a ps := by
  obtain ⟨vs, h, r⟩ := h
  exact ⟨vs, k a _ h, r.mono fun _ _ => IsP.tk k⟩
/-- a web as a pair -/
def WT (H : Hp) (t : Addr) (n : Nat) (ps : List (Nat × Nat)) : Prop := ∃ tp, H t = some (.tup [nv n, .ref tp]) ∧ PT H tp ps
theorem WT.tk {H H' : Hp} {t n : Nat} {ps : List (Nat × Nat)} (k : TK H H') (h : WT H t n ps) : WT H' t n ps := by
  obtain ⟨tp, h1, h2⟩ := h
  exact ⟨tp, k t _ h1, h2.tk k⟩
theorem A2.perm {α β : Type} {R : α → β → Prop} {bs bs' : List β} (p : bs'.Perm bs) : ∀ {as : List α}, A2 R as bs → ∃ as', as'.Perm as ∧ A2 R as' bs' := by
  induction p with
  | nil =>
    intro as h
    exact ⟨as, .refl _, h⟩
  | cons x p ih =>
    intro as h
    cases h with
    | cons h t =>
      obtain ⟨as', p', h'⟩ := ih t
      exact ⟨_, p'.cons _, .cons h h'⟩
  | swap x y l =>
    intro as h
    cases h with
    | cons h t =>
      cases t with
      | cons h2 t => exact ⟨_, .swap _ _ _, .cons h2 (.cons h t)⟩
  | trans p1 p2 ih1 ih2 =>
    intro as h
    obtain ⟨as', q, h'⟩ := ih2 h
    obtain ⟨as'', q', h''⟩ := ih1 h'
    exact ⟨as'', q'.trans q, h''⟩
theorem good_perm {n : Nat} {ps qs : List (Nat × Nat)} (G : AF.Good n ps) (p : qs.Perm ps) : AF.Good n qs :=
  ⟨G.1, fun q hq => G.2.1 q (p.mem_iff.mp hq), fun r hr => let ⟨q, hq, e⟩ := G.2.2 r hr; ⟨q, p.mem_iff.mpr hq, e⟩⟩
def spRows (c : Nat) : Sp := fun vs H Q _ => ∃ (t r n : Nat) (ps : List (Nat × Nat)), vs = [.ref t, nv r] ∧ WT H t n ps ∧ ps.length ≤ 100000 ∧ ∀ p H', H p = none → Same H H' → NL H' p ((List.range ps.length).filter fun i => decide (sel c (ps.getD i (0, 0)) = r)) → Q (.ref p) H'
def spMade (C : Addr) : Sp := fun vs H Q _ => ∃ (t n : Nat) (ps : List (Nat × Nat)), vs = [.ref t] ∧ WT H t n ps ∧ AF.Good n ps ∧ n ≤ 100 ∧ ps.length < 400 ∧ ∀ y H', H y = none → Same H H' → WebAt C H' y n ps → Q (.ref y) H'
def spTells (C : Addr) : Sp := fun vs H Q _ => ∃ (x n : Nat) (ps : List (Nat × Nat)), vs = [.ref x] ∧ WebAt C H x n ps ∧ ∀ t H', Same H H' → WT H' t n ps → Q (.ref t) H'
abbrev Nro : List Str := ["_law_w", "_law_room", "_law_at", "_law_pair"]
section
variable {P : Program} {w : World} {K : PySem.W.Frag} {mg : Str → Option Value} {base : Heap} {f C : Addr} {fd : FuncData}
theorem sc_louts : FnScope Nro ["_law_w", "_law_room"] (defScope (top 36)) := ⟨rfl, rfl, rfl, by decide +kernel, rfl, by decide +kernel, by decide +kernel⟩
theorem ok_louts (B : Bn mg) (F : FnP K "_law_outs" "_law_outs" (top 36) f fd) (hm : mg "_law_outs" = some (.ref f)) : C8.Cal P w K mg base 1 "_law_outs" (spRows 0) [] := by
  refine cal_mk F hm (fun _ _ _ _ _ _ us hl => match us, hl with | [_, _], _ => rfl) sc_louts (fun vs H Q E h => ?_) (fun cdv A outer s0 H vs Q E hr h => ?_)
  · obtain ⟨t, r, n, ps, rfl, _⟩ := h
    rfl
  · obtain ⟨t, r, n, ps, rfl, ⟨tp, h1, vs, hv, ha⟩, hn, q⟩ := h
    refine ⟨_, pss_one (ps_ret (pe_lc (own := [("_law_at", 2), ("_law_pair", 3)]) (g := gTup K 2 (gCons (gName 2) (gCons (gName 3) gNil))) (tt := tTest (tOp rEq (tOp (rIxT K) (tVar 3) (tC (.int 0))) (tVar 1))) (te := tVar 2) rfl sc_louts.nd (pi_enumT (by rfl) B.enumerate (pa_cons (pe_ix ix_tup (pv 0) pe_int (fun _ _ => rfl)) pa_nil)) (blkOk_by (N := Nro) (sc := defScope (top 36)) (by decide +kernel))
            (fun _ _ _ _ _ => pg_tup rfl (pgs_cons (pg_name (i := 2) sc_louts.nd rfl (Or.inl rfl)) (pgs_cons (pg_name (i := 3) sc_louts.nd rfl (Or.inl rfl)) pgs_nil)))
            (fun _ _ _ _ _ => pts_one (pt_cmpR op_eq (pe_ix ix_tup (pv 3) pe_int (fun _ _ => rfl)) (pv 1) (nomark _))) (fun _ _ _ _ _ => pv 2))), ?_⟩
    refine ⟨_, rfl, t, _, _, _, rfl, rfl, st_of h1, atI_nat (j := 1) rfl, tp, vs, rfl, st_of hv, fun D hD => ?_⟩
    exact lc_rows (r := r) (c := 0) (by decide) hv ha hn (fun _ _ => rfl) (fun _ _ => rfl) (fun _ _ => rfl) (fun _ _ => rfl) hD fun H7 s7 h7 => q D H7 hD s7 h7
theorem sc_lins : FnScope Nro ["_law_w", "_law_room"] (defScope (top 37)) := ⟨rfl, rfl, rfl, by decide +kernel, rfl, by decide +kernel, by decide +kernel⟩
theorem ok_lins (B : Bn mg) (F : FnP K "_law_ins" "_law_ins" (top 37) f fd) (hm : mg "_law_ins" = some (.ref f)) : C8.Cal P w K mg base 1 "_law_ins" (spRows 1) [] := by
  refine cal_mk F hm (fun _ _ _ _ _ _ us hl => match us, hl with | [_, _], _ => rfl) sc_lins (fun vs H Q E h => ?_) (fun cdv A outer s0 H vs Q E hr h => ?_)
  · obtain ⟨t, r, n, ps, rfl, _⟩ := h
    rfl
  · obtain ⟨t, r, n, ps, rfl, ⟨tp, h1, vs, hv, ha⟩, hn, q⟩ := h
    refine ⟨_, pss_one (ps_ret (pe_lc (own := [("_law_at", 2), ("_law_pair", 3)]) (g := gTup K 2 (gCons (gName 2) (gCons (gName 3) gNil))) (tt := tTest (tOp rEq (tOp (rIxT K) (tVar 3) (tC (.int 1))) (tVar 1))) (te := tVar 2) rfl sc_lins.nd (pi_enumT (by rfl) B.enumerate (pa_cons (pe_ix ix_tup (pv 0) pe_int (fun _ _ => rfl)) pa_nil)) (blkOk_by (N := Nro) (sc := defScope (top 37)) (by decide +kernel))
            (fun _ _ _ _ _ => pg_tup rfl (pgs_cons (pg_name (i := 2) sc_lins.nd rfl (Or.inl rfl)) (pgs_cons (pg_name (i := 3) sc_lins.nd rfl (Or.inl rfl)) pgs_nil)))
            (fun _ _ _ _ _ => pts_one (pt_cmpR op_eq (pe_ix ix_tup (pv 3) pe_int (fun _ _ => rfl)) (pv 1) (nomark _))) (fun _ _ _ _ _ => pv 2))), ?_⟩
    refine ⟨_, rfl, t, _, _, _, rfl, rfl, st_of h1, atI_nat (j := 1) rfl, tp, vs, rfl, st_of hv, fun D hD => ?_⟩
    exact lc_rows (r := r) (c := 1) (by decide) hv ha hn (fun _ _ => rfl) (fun _ _ => rfl) (fun _ _ => rfl) (fun _ _ => rfl) hD fun H7 s7 h7 => q D H7 hD s7 h7
theorem sc_made : FnScope ["_law_w"] ["_law_w"] (defScope (top 34)) := ⟨rfl, rfl, rfl, by decide +kernel, rfl, by decide +kernel, by decide +kernel⟩
theorem ok_made (B : Bn mg) (F : FnP K "_law_made" "_law_made" (top 34) f fd) (hm : mg "_law_made" = some (.ref f)) (cW : C8.Mak P w K mg base 3 "Web" C (spInit C) []) : C8.Cal P w K mg base 5 "_law_made" (spMade C) [] := by
  refine cal_mk F hm (fun _ _ _ _ _ _ us hl => match us, hl with | [_], _ => rfl) sc_made (fun vs H Q E h => ?_) (fun cdv A outer s0 H vs Q E hr h => ?_)
  · obtain ⟨t, n, ps, rfl, _⟩ := h
    rfl
  · obtain ⟨t, n, ps, rfl, ⟨tp, h1, vs, hv, ha⟩, G, hn, hl, q⟩ := h
    refine ⟨_, pss_one (ps_ret (C8.pe_mk cW hr (by decide) rfl (pa_cons (pe_ix ix_tup (pv 0) pe_int (fun _ _ => rfl)) (pa_cons (pe_callTy call_list_of (by rfl) B.list (by decide +kernel) (pa_cons (pe_ix ix_tup (pv 0) pe_int (fun _ _ => rfl)) pa_nil)) pa_nil)))), ?_⟩
    refine ⟨_, rfl, t, _, _, _, rfl, rfl, st_of h1, atI_nat (j := 0) rfl, _, rfl, t, _, _, _, rfl, rfl, st_of h1, atI_nat (j := 1) rfl, tp, vs, rfl, .inr (st_of hv), fun l hl0 => ?_⟩
    intro y dy hy hdy hne
    have s1 : Same H (upd H l (.lst vs)) := same_new hl0
    have hl1 : (upd H l (.lst vs)) l = some (.lst vs) := upd_same
    generalize upd H l (.lst vs) = H1 at s1 hl1 hy hdy ⊢
    have s2 : Same H1 (upd (upd H1 dy (.own y)) y (.ins C dy [])) := (same_new hdy).trans (same_new (by rw [upd_ne (Ne.symm hne)]; exact hy))
    refine ⟨y, dy, l, n, ps, rfl, upd_same, ⟨vs, s2 _ _ hl1, (ha.mono fun _ _ => IsP.mono s1).mono fun _ _ => IsP.mono s2⟩, G, hn, hl, fun H9 k9 w9 => ⟨rfl, ?_⟩⟩
    have s9 : Same H1 H9 := fun c o e => k9 c o (s2 c o e) (ne_of_none e hy)
    exact q y H9 (s1.free hy) (s1.trans s9) w9
theorem sc_tells : FnScope ["_law_web_here"] ["_law_web_here"] (defScope (top 35)) := ⟨rfl, rfl, rfl, by decide +kernel, rfl, by decide +kernel, by decide +kernel⟩
theorem ok_tells (B : Bn mg) (F : FnP K "_law_tells" "_law_tells" (top 35) f fd) (hm : mg "_law_tells" = some (.ref f)) (cR : C8.Met P w K mg base 1 C "rooms" (spRooms C) []) (cA : C8.Met P w K mg base 1 C "arrows" (spArrows C) []) : C8.Cal P w K mg base 2 "_law_tells" (spTells C) [] := by
  refine cal_mk F hm (fun _ _ _ _ _ _ us hl => match us, hl with | [_], _ => rfl) sc_tells (fun vs H Q E h => ?_) (fun cdv A outer s0 H vs Q E hr h => ?_)
  · obtain ⟨x, n, ps, rfl, _⟩ := h
    rfl
  · obtain ⟨x, n, ps, rfl, hw, q⟩ := h
    obtain ⟨dx, tp, ll, lc, h1, _⟩ := hw.ex
    have no := fun (m : Str) (e1 : (m == ("size" : Str)) = false) (e2 : (m == ("pairs" : Str)) = false) (e3 : (m == ("leaving" : Str)) = false) (e4 : (m == ("coming" : Str)) = false) => flds_no n tp ll lc e1 e2 e3 e4
    refine ⟨_, pss_one (ps_ret (pe_tup (pa_cons (C8.pe_mt0 cR hr (by decide) (pv 0)) (pa_cons (pe_callTy call_tuple_of (by rfl) B.tuple (by decide +kernel) (pa_cons (C8.pe_mt0 cA hr (by decide) (pv 0)) pa_nil)) pa_nil)))), ?_⟩
    refine ⟨_, rfl, x, dx, _, rfl, h1, no _ (by decide +kernel) (by decide +kernel) (by decide +kernel) (by decide +kernel), x, n, ps, rfl, hw, ?_⟩
    refine ⟨_, rfl, x, dx, _, rfl, h1, no _ (by decide +kernel) (by decide +kernel) (by decide +kernel) (by decide +kernel), x, n, ps, rfl, hw, fun l H1 hl s1 ⟨vs, hv, ha⟩ => ⟨l, vs, rfl, .inl ⟨sq_of hv, fun tq htq => ⟨(show 2 ≤ sizeLine by decide), fun t ht => ?_⟩⟩⟩⟩
    have s2 : Same H1 (upd H1 tq (.tup vs)) := same_new htq
    have h2 : (upd H1 tq (.tup vs)) tq = some (.tup vs) := upd_same
    generalize upd H1 tq (.tup vs) = H2 at s2 h2 ht ⊢
    refine q t _ ((s1.trans s2).trans (same_new ht)) ⟨tq, upd_same, vs, same_new ht _ _ h2, ?_⟩
    exact ((ha.mono fun _ _ => IsP.mono s2).mono fun _ _ => IsP.mono (same_new ht))
end
end AW

set_option maxRecDepth 100000
set_option maxHeartbeats 4000000
namespace AW
open PySem PySem.Spec PyProof.Rows L2
/-! _law_web -/
theorem keep_upd {H H' : Hp} {b a : Addr} {o : HO} (k : Keep b H H') (ha : H a = none) : Keep b H (upd H' a o) := fun c u e => by
  have hcb : c ≠ b := fun z => by
    rw [z] at e
    unfold ers at e
    rw [if_pos rfl] at e
    cases e
  have hc : H c = some u := ers_same c u e
  rw [ers_ne hcb, upd_ne (ne_of_none hc ha)]
  exact keep_at k e
def spWeb : Sp := fun vs H Q _ => ∃ (b s a c : Nat), vs = [.ref b, nv a, nv c] ∧ BagAt H b s ∧ 1 ≤ a ∧ a ≤ 10 ∧ c ≤ 10 ∧
  ∀ t n ps H', Keep b H H' → BagAt H' b s → WT H' t n ps → AF.Good n ps → n ≤ a → ps.length ≤ a + c → Q (.ref t) H'
abbrev Nwe : List Str := ["_law_bag_here", "_law_rooms_most", "_law_more_most", "_law_rooms", "_law_pairs", "_law_k", "_law_room"]
/-- a list of pairs that grows: what is known of it -/
def Grow (H : Hp) (p n i : Nat) (b s : Addr) (N : Nat) : Prop := ∃ (qs : List (Nat × Nat)) (ys : List V), H p = some (.lst ys) ∧ A2 (IsP H) qs ys ∧ qs.length = N ∧ (∀ q ∈ qs, q.1 < n ∧ q.2 < n) ∧ ∀ r, r < i → ∃ q ∈ qs, q.1 = r
theorem Grow.app {H : Hp} {p n i b s N : Nat} {q : Nat × Nat} {v : V} (h : Grow H p n i b s N) (hv : IsP H q v) (h1 : q.1 < n) (h2 : q.2 < n) (i' : Nat) (hi : i' ≤ i ∨ (i' = i + 1 ∧ q.1 = i)) : ∃ ys, H p = some (.lst ys) ∧ ys.length = N ∧ Grow (upd H p (.lst (ys ++ [v]))) p n i' b s (N + 1) := by
  obtain ⟨qs, ys, hp, ha, hl, hb, hr⟩ := h
  refine ⟨ys, hp, by rw [← ha.len]; exact hl, qs ++ [q], ys ++ [v], upd_same, ?_, ?_, ?_, ?_⟩
  · exact (ha.mono fun _ _ => IsP.tk (TK.lst hp)).snoc (hv.tk (TK.lst hp))
  · rw [List.length_append, hl]
    rfl
  · intro z hz
    rcases List.mem_append.mp hz with z' | z'
    · exact hb z z'
    · rw [List.mem_singleton.mp z']
      exact ⟨h1, h2⟩
  · intro r hr'
    rcases hi with hi | ⟨hi, e⟩
    · obtain ⟨z, hz, ez⟩ := hr r (by omega)
      exact ⟨z, List.mem_append_left _ hz, ez⟩
    · by_cases hri : r < i
      · obtain ⟨z, hz, ez⟩ := hr r hri
        exact ⟨z, List.mem_append_left _ hz, ez⟩
      · exact ⟨q, List.mem_append_right _ (List.mem_singleton.mpr rfl), by omega⟩
theorem Grow.keep {H H' : Hp} {p n i b s N : Nat} (h : Grow H p n i b s N) (hb : BagAt H b s) (hp : p ≠ b) (k : Keep b H H') : Grow H' p n i b s N := by
  obtain ⟨qs, ys, h1, ha, r⟩ := h
  exact ⟨qs, ys, keep_at k (ers_at h1 hp), ha.mono fun _ _ => IsP.tk (TK.keep hb k), r⟩
theorem Grow.new {H : Hp} {p n i b s N a : Nat} {o : HO} (h : Grow H p n i b s N) (ha : H a = none) : Grow (upd H a o) p n i b s N := by
  obtain ⟨qs, ys, h1, h2, r⟩ := h
  exact ⟨qs, ys, same_new ha _ _ h1, h2.mono fun _ _ => IsP.mono (same_new ha), r⟩
section
variable {P : Program} {w : World} {K : PySem.W.Frag} {mg : Str → Option Value} {base : Heap} {f C : Addr} {fd : FuncData}
theorem sc_web : FnScope Nwe ["_law_bag_here", "_law_rooms_most", "_law_more_most"] (defScope (top 33)) := ⟨rfl, rfl, rfl, by decide +kernel, rfl, by decide +kernel, by decide +kernel⟩
theorem ok_web (B : Bn mg) (F : FnP K "_law_web" "_law_web" (top 33) f fd) (hm : mg "_law_web" = some (.ref f)) (cP : C8.Cal P w K mg base 1 "_law_pull" spPull []) (cM : C8.Cal P w K mg base 2 "_law_mixed" spMixed []) : C8.Cal P w K mg base 3 "_law_web" spWeb [] := by
  refine cal_mk F hm (fun _ _ _ _ _ _ us hl => match us, hl with | [_, _, _], _ => rfl) sc_web (fun vs H Q E h => ?_) (fun cdv A outer s0 H vs Q E hr h => ?_)
  · obtain ⟨b, s, a, c, rfl, _⟩ := h
    rfl
  · obtain ⟨b, s, a, c, rfl, hb, ha1, ha2, hc, q⟩ := h
    refine ⟨_, pss_cons (ps_set (i := 3) sc_web.nd rfl (Or.inr rfl) (pe_op op_add pe_int (C8.pe_c cP hr (by decide) rfl (pa_cons (pv 0) (pa_cons (pv 1) pa_nil)))))
      (pss_cons (ps_setLc (i := 4) (own := [("_law_room", 6)]) (g := gName 6) (tt := tYes) (te := tTup (tCons (tVar 6) (tCons (tCall spPull [] E0 (tCons (tVar 0) (tCons (tVar 3) tNil))) tNil))) rfl sc_web.nd rfl rfl (sw_true rfl rfl rfl (by decide +kernel)) (pi_range1 rfl B.range (pa_cons (pv 3) pa_nil)) (blkOk_by (N := Nwe) (sc := defScope (top 33)) (by decide +kernel))
            (fun _ _ _ _ _ => pg_name (i := 6) sc_web.nd rfl (Or.inl rfl)) (fun _ _ _ _ _ => pts_nil)
            (fun _ _ _ _ _ => pe_tup (pa_cons (pv 6) (pa_cons (C8.pe_c cP hr (by decide) rfl (pa_cons (pv 0) (pa_cons (pv 3) pa_nil))) pa_nil))))
      (pss_cons (ps_for PassesOwn.never rfl (pi_range1 rfl B.range (pa_cons (C8.pe_c cP hr (by decide) rfl (pa_cons (pv 0) (pa_cons (pe_op op_add (pv 2) pe_int) pa_nil))) pa_nil)) (pg_name (i := 5) sc_web.nd rfl (Or.inl rfl))
        (pss_one (ps_expr (pe_bm PySem.F.plainAttrs_list PySem.F.slot_list_append PySem.F.type_list_append mt_append (pv 4) (pa_cons
          (pe_tup (pa_cons (C8.pe_c cP hr (by decide) rfl (pa_cons (pv 0) (pa_cons (pv 3) pa_nil))) (pa_cons (C8.pe_c cP hr (by decide) rfl (pa_cons (pv 0) (pa_cons (pv 3) pa_nil))) pa_nil))) pa_nil)))))
      (pss_one (ps_ret (pe_tup (pa_cons (pv 3) (pa_cons (pe_callTy call_tuple_of (by rfl) B.tuple (by decide +kernel) (pa_cons (C8.pe_c cM hr (by decide) rfl (pa_cons (pv 0) (pa_cons (pv 4) pa_nil))) pa_nil)) pa_nil))))))), ?_⟩
    -- rooms
    refine ⟨_, rfl, _, rfl, b, s, a, rfl, hb, ha1, by omega, fun k0 H1 hk0 k1 b1 => ⟨_, _, rfl, rfl, ?_⟩⟩
    have en : (1 : Int) + (k0 : Int) = ((k0 + 1 : Nat) : Int) := by omega
    dsimp only
    rw [en]
    have hna : k0 + 1 ≤ a := hk0
    have hn1 : 1 ≤ k0 + 1 := by omega
    generalize k0 + 1 = n at hna hn1 ⊢
    -- pairs
    refine ⟨_, rfl, (n : Int), rfl, by omega, by omega, fun D hD => ?_⟩
    obtain ⟨nDb, nDs⟩ := b1.new hD
    refine lc_it (walk_rangeN (n := n)) (fun i H' => Keep b H1 H' ∧ BagAt H' b s ∧ Grow H' D n i b s i) ⟨Keep.of (same_new hD), b1.mono (same_new hD), [], [], upd_same, .nil, rfl, (fun _ h => by cases h), fun r h => absurd h (Nat.not_lt_zero _)⟩ (fun _ _ _ _ => trivial) ?_ ?_
    · rintro i xx H2 H3 hi ⟨k2, b2, g2⟩ ⟨rfl, rfl⟩
      refine ⟨rfl, ?_⟩
      unfold tYes
      refine iteT ⟨_, rfl, _, rfl, _, rfl, b, s, n, rfl, b2, hn1, by omega, fun k H4 hk k4 b4 => ⟨(show 2 ≤ sizeLine by decide), fun t ht => ?_⟩⟩
      have g4 : Grow (upd H4 t (.tup [nv i, nv k])) D n i b s i := (g2.keep b2 nDb k4).new ht
      have b5 : BagAt (upd H4 t (.tup [nv i, nv k])) b s := b4.mono (same_new ht)
      have k5 : Keep b H1 (upd H4 t (.tup [nv i, nv k])) := k2.trans (k4.trans (Keep.of (same_new ht)))
      have p5 : IsP (upd H4 t (.tup [nv i, nv k])) (i, k) (.ref t) := ⟨t, rfl, upd_same⟩
      obtain ⟨ys, e1, e2, e3⟩ := g4.app p5 hi hk (i + 1) (.inr ⟨rfl, rfl⟩)
      exact ⟨ys, e1, sz_lt (by omega), keep_upd k5 hD, b5.upd nDb nDs, e3⟩
    · rintro H2 ⟨k2, b2, g2⟩
      -- for k in range(pull(bag, more + 1))
      have ec : (c : Int) + 1 = ((c + 1 : Nat) : Int) := by omega
      refine ⟨_, rfl, _, rfl, _, _, rfl, rfl, b, s, c + 1, (by
        show [V.ref b, V.int ((c : Int) + 1)] = _
        rw [ec]), b2, by omega, by omega, fun m H3 hm' k3 b3 => ⟨(m : Int), rfl, by omega, by omega, ?_⟩⟩
      have kD : Keep b H H2 := k1.trans k2
      have g3 := g2.keep b2 nDb k3
      refine for_it (walk_rangeN (n := m)) (fun i σ H' => ∃ v5 : Option V, σ = [some (.ref b), some (nv a), some (nv c), some (nv n), some (.ref D), v5, none] ∧ Keep b H1 H' ∧ BagAt H' b s ∧ Grow H' D n n b s (n + i)) ⟨none, rfl, k2.trans k3, b3, g3⟩ (fun _ _ _ _ _ => trivial) ?_ ?_
      · rintro i xx σ H4 H5 hi ⟨v5, rfl, k4, b4, g4⟩ ⟨rfl, rfl⟩
        obtain ⟨qs, ys, hD4, _⟩ := id g4
        refine ⟨_, rfl, .inl ⟨rfl, _, sq_of hD4⟩, _, rfl, _, rfl, b, s, n, rfl, b4, hn1, by omega, fun x H6 hx k6 b6 => ?_⟩
        refine ⟨_, rfl, _, rfl, b, s, n, rfl, b6, hn1, by omega, fun y H7 hy k7 b7 => ⟨(show 2 ≤ sizeLine by decide), fun t ht => ?_⟩⟩
        have g8 : Grow (upd H7 t (.tup [nv x, nv y])) D n n b s (n + i) := ((g4.keep b4 nDb k6).keep b6 nDb k7).new ht
        have b8 : BagAt (upd H7 t (.tup [nv x, nv y])) b s := b7.mono (same_new ht)
        have k8 : Keep b H1 (upd H7 t (.tup [nv x, nv y])) := ((k4.trans k6).trans k7).trans (Keep.of (same_new ht))
        have p8 : IsP (upd H7 t (.tup [nv x, nv y])) (x, y) (.ref t) := ⟨t, rfl, upd_same⟩
        obtain ⟨ys', e1, e2, e3⟩ := g8.app p8 hx hy n (.inl (Nat.le_refl _))
        exact ⟨D, ys', _, rfl, rfl, e1, sz_lt (by omega), _, rfl, keep_upd k8 hD, b8.upd nDb nDs, e3⟩
      · rintro σ H4 ⟨v5, rfl, k4, b4, qs, ys, hD4, hA, hlq, hq1, hq2⟩
        refine ⟨_, rfl, _, rfl, _, rfl, b, s, D, ys, rfl, b4, ers_at hD4 nDb, by rw [← hA.len]; omega, fun p zs H5 hp k5 b5 hz5 hpm => ?_⟩
        obtain ⟨us, hpu, hAu⟩ := (hA.mono fun _ _ => IsP.tk (TK.keep b4 k5)).perm hpm
        have G : AF.Good n us := good_perm ⟨hn1, hq1, hq2⟩ hpu
        have hul : us.length ≤ a + c := by
          rw [hpu.length_eq]
          omega
        refine ⟨p, zs, rfl, .inl ⟨sq_of hz5, fun tq htq => ⟨(show 2 ≤ sizeLine by decide), fun t ht => ?_⟩⟩⟩
        have s6 : Same H5 (upd H5 tq (.tup zs)) := same_new htq
        have h6 : (upd H5 tq (.tup zs)) tq = some (.tup zs) := upd_same
        generalize upd H5 tq (.tup zs) = H6 at s6 h6 ht ⊢
        have s7 := same_new (o := .tup [nv n, .ref tq]) ht
        refine q t n us _ (((k1.trans k4).trans k5).trans (Keep.of (s6.trans s7))) ((b5.mono s6).mono s7) ⟨tq, upd_same, zs, s7 _ _ h6, ?_⟩ G hna hul
        exact (hAu.mono fun _ _ => IsP.mono s6).mono fun _ _ => IsP.mono s7
end
end AW

set_option maxRecDepth 100000
set_option maxHeartbeats 4000000
namespace AW
open PySem PySem.Spec PyProof.Rows L2
/-! _law_split -/
theorem in_nv (i : Nat) (ns : List Nat) : inV (nv i) (ns.map nv) = decide (i ∈ ns) := by
  unfold inV
  rw [List.any_map]
  by_cases h : i ∈ ns
  · rw [decide_eq_true h, List.any_eq_true]
    exact ⟨i, h, by simp [eqV]⟩
  · rw [decide_eq_false h, List.any_eq_false]
    intro j hj
    have : j ≠ i := fun z => h (by rw [← z]; exact hj)
    simp only [Function.comp, eqV]
    intro z
    exact this (by have := eq_of_beq z; omega)
theorem flat_nv (ns : List Nat) : (ns.map nv).all flatV = true := by
  rw [List.all_eq_true]
  intro x hx
  obtain ⟨n, _, rfl⟩ := List.mem_map.mp hx
  rfl
def splitI (ps : List (Nat × Nat)) (n : Nat) (part : List Nat) (i : Nat) : Nat × Nat := if i ∈ part then (n, (ps.getD i (0, 0)).2) else ps.getD i (0, 0)
def splitW (ps : List (Nat × Nat)) (n room : Nat) (part : List Nat) : List (Nat × Nat) := (List.range ps.length).map (splitI ps n part) ++ (insOf ps room).map fun j => ((splitI ps n part j).1, n)
theorem split_len (ps : List (Nat × Nat)) (n room : Nat) (part : List Nat) : (splitW ps n room part).length = ps.length + (insOf ps room).length := by
  unfold splitW
  rw [List.length_append, List.length_map, List.length_map, List.length_range]
def PartFit (ps : List (Nat × Nat)) (room : Nat) (part : List Nat) : Prop := (∀ i ∈ part, i ∈ outsOf ps room) ∧ part ≠ [] ∧ ∃ i ∈ outsOf ps room, i ∉ part
theorem split_good {n room : Nat} {ps : List (Nat × Nat)} {part : List Nat} (G : AF.Good n ps) (h : PartFit ps room part) : AF.Good (n + 1) (splitW ps n room part) := by
  obtain ⟨h1, h2, i0, h3, h4⟩ := h
  have mem0 : ∀ i, i < ps.length → splitI ps n part i ∈ splitW ps n room part := fun i hi => List.mem_append_left _ (List.mem_map.mpr ⟨i, List.mem_range.mpr hi, rfl⟩)
  have bd : ∀ i, i < ps.length → (splitI ps n part i).1 < n + 1 ∧ (splitI ps n part i).2 < n + 1 := fun i hi => by
    have g := G.2.1 _ (getD_mem hi)
    unfold splitI
    split
    · exact ⟨Nat.lt_succ_self n, by have := g.2; show (ps.getD i (0, 0)).2 < n + 1; omega⟩
    · exact ⟨by omega, by omega⟩
  refine ⟨by omega, fun p hp => ?_, fun r hr => ?_⟩
  · rcases List.mem_append.mp hp with h | h
    · obtain ⟨i, hi, rfl⟩ := List.mem_map.mp h
      exact bd i (List.mem_range.mp hi)
    · obtain ⟨i, hi, rfl⟩ := List.mem_map.mp h
      exact ⟨(bd i (ins_lt hi).1).1, Nat.lt_succ_self n⟩
  · by_cases hrn : r = n
    · cases part with
      | nil => exact absurd rfl h2
      | cons i r' =>
        have hi := outs_lt (h1 i (List.mem_cons_self ..))
        refine ⟨_, mem0 i hi.1, ?_⟩
        unfold splitI
        rw [if_pos (List.mem_cons_self ..)]
        exact hrn.symm
    · by_cases hrr : r = room
      · have hi := outs_lt h3
        refine ⟨_, mem0 i0 hi.1, ?_⟩
        unfold splitI
        rw [if_neg h4, hrr]
        exact hi.2
      · obtain ⟨p, hp, e⟩ := G.2.2 r (by omega)
        obtain ⟨i, hi⟩ := List.mem_iff_getElem?.mp hp
        have hil : i < ps.length := (List.getElem?_eq_some_iff.mp hi).1
        refine ⟨_, mem0 i hil, ?_⟩
        unfold splitI
        rw [if_neg ?_, getD_of hi]
        · exact e
        · intro hm
          have z := (outs_lt (h1 i hm)).2
          rw [getD_of hi] at z
          exact hrr (e.symm.trans z)
def spSplit : Sp := fun vs H Q _ => ∃ (t room n pt : Nat) (part : List Nat) (ps : List (Nat × Nat)), vs = [.ref t, nv room, .ref pt] ∧ WT H t n ps ∧ NL H pt part ∧ ps.length ≤ 1000 ∧
  ∀ u t' v H', Same H H' → H' u = some (.tup [.ref t', v]) → WT H' t' (n + 1) (splitW ps n room part) → Q (.ref u) H'
abbrev Nsp : List Str := ["_law_w", "_law_room", "_law_part_here", "_law_pairs", "_law_at", "_law_pair", "_law_elders", "_law_arrow"]
section
variable {P : Program} {w : World} {K : PySem.W.Frag} {mg : Str → Option Value} {base : Heap} {f C : Addr} {fd : FuncData}
theorem sc_split : FnScope Nsp ["_law_w", "_law_room", "_law_part_here"] (defScope (top 38)) := ⟨rfl, rfl, rfl, by decide +kernel, rfl, by decide +kernel, by decide +kernel⟩
theorem ok_split (B : Bn mg) (F : FnP K "_law_split" "_law_split" (top 38) f fd) (hm : mg "_law_split" = some (.ref f)) (cI : C8.Cal P w K mg base 1 "_law_ins" (spRows 1) []) : C8.Cal P w K mg base 2 "_law_split" spSplit [] := by
  refine cal_mk F hm (fun _ _ _ _ _ _ us hl => match us, hl with | [_, _, _], _ => rfl) sc_split (fun vs H Q E h => ?_) (fun cdv A outer s0 H vs Q E hr h => ?_)
  · obtain ⟨t, room, n, pt, part, ps, rfl, _⟩ := h
    rfl
  · obtain ⟨t, room, n, pt, part, ps, rfl, hw, hpt, hl, q⟩ := h
    obtain ⟨tp, h1, vs, hv, ha⟩ := id hw
    have hlv : vs.length = ps.length := ha.len.symm
    refine ⟨_, pss_cons (ps_set (i := 3) sc_split.nd rfl (Or.inr rfl) (pe_lst pa_nil))
      (pss_cons (ps_for PassesOwn.never rfl (pi_enumT (by rfl) B.enumerate (pa_cons (pe_ix ix_tup (pv 0) pe_int (fun _ _ => rfl)) pa_nil)) (pg_tup rfl (pgs_cons (pg_name (i := 4) sc_split.nd rfl (Or.inl rfl)) (pgs_cons (pg_name (i := 5) sc_split.nd rfl (Or.inl rfl)) pgs_nil)))
        (pss_one (ps_expr (pe_bm PySem.F.plainAttrs_list PySem.F.slot_list_append PySem.F.type_list_append mt_append (pv 3) (pa_cons
          (pe_ifExp (pt_cmpR op_in_seq (pv 4) (pv 2) (by rfl)) (pe_tup (pa_cons (pe_ix ix_tup (pv 0) pe_int (fun _ _ => rfl)) (pa_cons (pe_ix ix_tup (pv 5) pe_int (fun _ _ => rfl)) pa_nil))) (pv 5)) pa_nil)))))
      (pss_cons (ps_set (i := 6) sc_split.nd rfl (Or.inl rfl) (C8.pe_c cI hr (by decide) rfl (pa_cons (pv 0) (pa_cons (pv 1) pa_nil))))
      (pss_cons (ps_set (i := 3) sc_split.nd rfl (Or.inr rfl) (pe_op op_cat (pv 3) (pe_lc (own := [("_law_arrow", 7)]) (g := gName 7) (tt := tYes) (te := tTup (tCons (tOp (rIxT K) (tOp (rIxL K) (tVar 3) (tVar 7)) (tC (.int 0))) (tCons (tOp (rIxT K) (tVar 0) (tC (.int 0))) tNil))) rfl sc_split.nd (pi_list (pv 6)) (blkOk_by (N := Nsp) (sc := defScope (top 38)) (by decide +kernel))
            (fun _ _ _ _ _ => pg_name (i := 7) sc_split.nd rfl (Or.inl rfl)) (fun _ _ _ _ _ => pts_nil)
            (fun _ _ _ _ _ => pe_tup (pa_cons (pe_ix ix_tup (pe_ix ix_list (pv 3) (pv 7) (fun _ _ => rfl)) pe_int (fun _ _ => rfl)) (pa_cons (pe_ix ix_tup (pv 0) pe_int (fun _ _ => rfl)) pa_nil))))))
      (pss_one (ps_ret (pe_tup (pa_cons (pe_tup (pa_cons (pe_op op_add (pe_ix ix_tup (pv 0) pe_int (fun _ _ => rfl)) pe_int) (pa_cons (pe_callTy call_tuple_of (by rfl) B.tuple (by decide +kernel) (pa_cons (pv 3) pa_nil)) pa_nil)))
          (pa_cons (pe_op op_cat (pe_listRg rfl (by rfl) B.list (prg_1 (by rfl) B.range (pe_callB call_len_seq (by rfl) B.len (by decide +kernel) (pa_cons (pe_ix ix_tup (pv 0) pe_int (fun _ _ => rfl)) pa_nil)))) (pv 6)) pa_nil)))))))), ?_⟩
    refine ⟨Nat.zero_le _, fun D hD => ?_⟩
    have s1 : Same H (upd H D (.lst [])) := same_new hD
    have hD1 : (upd H D (.lst [])) D = some (.lst []) := upd_same
    generalize upd H D (.lst []) = H1 at s1 hD1 ⊢
    refine ⟨_, rfl, t, _, _, _, rfl, rfl, st_of (s1 _ _ h1), atI_nat (j := 1) rfl, tp, vs, rfl, st_of (s1 _ _ hv), for_it (walk_enumT (K := K) (a := tp) (xs := vs)) (fun i σ H' => ∃ v4 v5 : Option V, σ = [some (.ref t), some (nv room), some (.ref pt), some (.ref D), v4, v5, none, none] ∧ Same H H' ∧ ∃ ys, H' D = some (.lst ys) ∧ A2 (IsP H') ((List.range i).map (splitI ps n part)) ys)
      ⟨none, none, rfl, s1, [], hD1, .nil⟩ (fun i σ H' _ ⟨_, _, _, s', _⟩ => st_of (s' _ _ hv)) ?_ ?_⟩
    · rintro i xx σ H2 H3 hi ⟨v4, v5, rfl, s2, ys, hy, hA⟩ ⟨T, x1, x2, rfl, hT, rfl, e1, e2⟩
      cases Option.some.inj e1
      obtain ⟨tt, ett, htt⟩ := arrow_at (i := i) ha (by omega)
      cases Option.some.inj (e2.symm.trans ett)
      have hyl : ys.length = i := by rw [← hA.len, List.length_map, List.length_range]
      refine ⟨T, _, rfl, st_of upd_same, rfl, _, _, rfl, _, _, rfl, rfl, ?_⟩
      have sT : Same H2 (upd H2 T (.tup [nv i, .ref tt])) := same_new hT
      have s3 := s2.trans sT
      have hy3 := sT _ _ hy
      have hA3 := hA.mono fun _ _ => IsP.mono sT
      generalize upd H2 T (.tup [nv i, .ref tt]) = H3 at sT s3 hy3 hA3 ⊢
      refine ⟨_, rfl, .inl ⟨rfl, _, sq_of hy3⟩, _, rfl, _, rfl, pt, _, rfl, .inl (sq_of (hpt.mono s3)), rfl, flat_nv part, _, rfl, ?_⟩
      have fin : ∀ (v : V) (H4 : Hp), Same H3 H4 → IsP H4 (splitI ps n part i) v → Same H (upd H4 D (.lst (ys ++ [v]))) ∧ ∃ ys', (upd H4 D (.lst (ys ++ [v]))) D = some (.lst ys') ∧ A2 (IsP (upd H4 D (.lst (ys ++ [v])))) ((List.range (i + 1)).map (splitI ps n part)) ys' := fun v H4 s4 hv4 => by
        refine ⟨same_mut (s3.trans s4) hD, _, upd_same, ?_⟩
        rw [List.range_succ, List.map_append]
        have k4 : TK H4 (upd H4 D (.lst (ys ++ [v]))) := TK.lst (s4 _ _ hy3)
        exact (hA3.mono fun _ _ z => (z.mono s4).tk k4).snoc (hv4.tk k4)
      by_cases hp : i ∈ part
      · have e : (if false = true then !inV (nv i) (part.map nv) else inV (nv i) (part.map nv)) = true := by
          rw [if_neg Bool.false_ne_true, in_nv, decide_eq_true hp]
        rw [e]
        refine iteT ⟨_, rfl, t, _, _, _, rfl, rfl, st_of (s3 _ _ h1), atI_nat (j := 0) rfl, _, rfl, tt, _, _, _, rfl, rfl, st_of (s3 _ _ htt), atI_nat (j := 1) rfl, (show 2 ≤ sizeLine by decide), fun p hp4 => ?_⟩
        have z := fin (.ref p) _ (same_new hp4) ⟨p, rfl, by
          unfold splitI
          rw [if_pos hp]
          exact upd_same⟩
        exact ⟨D, ys, _, rfl, rfl, same_new hp4 _ _ hy3, sz_lt (by omega), _, _, rfl, z⟩
      · have e : (if false = true then !inV (nv i) (part.map nv) else inV (nv i) (part.map nv)) = false := by
          rw [if_neg Bool.false_ne_true, in_nv, decide_eq_false hp]
        rw [e]
        refine iteF ⟨_, rfl, ?_⟩
        have z := fin (.ref tt) _ (Same.refl _) ⟨tt, rfl, by
          unfold splitI
          rw [if_neg hp]
          exact s3 _ _ htt⟩
        exact ⟨D, ys, _, rfl, rfl, hy3, sz_lt (by omega), _, _, rfl, z⟩
    · rintro σ H2 ⟨v4, v5, rfl, s2, ys, hy, hA⟩
      rw [hlv] at hA
      have hyl : ys.length = ps.length := by rw [← hA.len, List.length_map, List.length_range]
      -- elders
      refine ⟨_, rfl, _, rfl, t, room, n, ps, rfl, hw.tk (TK.of s2), by omega, fun el H3 hel s3 hN => ?_⟩
      have hN : NL H3 el (insOf ps room) := hN
      have c3 := s2.trans s3
      have hy3 := s3 _ _ hy
      have hA3 := hA.mono fun _ _ => IsP.mono s3
      have hil := ins_len ps room
      refine ⟨_, rfl, _, rfl, el, rfl, ⟨_, sq_of hN⟩, fun D2 hD2 => lc_N hN hD2 (fun j y H' => IsP H' ((splitI ps n part j).1, n) y) (fun _ _ _ _ => IsP.mono) (by omega) gName_mono ?_ ?_⟩
      · rintro j H' zs hj hz s4 Ky hk
        have hj' := (ins_lt hj).1
        have ej : ((List.range ps.length).map (splitI ps n part))[j]? = some (splitI ps n part j) := by
          rw [List.getElem?_map, List.getElem?_range hj']
          rfl
        obtain ⟨v, ev, tv, rfl, htv⟩ := hA3.get ej
        refine ⟨rfl, _, rfl, _, rfl, D, ys, _, _, rfl, rfl, sq_of (s4 _ _ hy3), atI_nat ev, tv, _, _, _, rfl, rfl, st_of (s4 _ _ htv), atI_nat (j := 0) rfl, _, rfl, t, _, _, _, rfl, rfl, st_of ((c3.trans s4) _ _ h1), atI_nat (j := 0) rfl, (show 2 ≤ sizeLine by decide), fun p hp => hk _ _ (same_new hp) ⟨p, rfl, ?_⟩⟩
        rw [ers_ne (fun z => by rw [z, hz] at hp; cases hp)]
        exact upd_same
      · intro H4 zs s4 hz4 hA4
        have c4 := c3.trans s4
        have hzl : zs.length = (insOf ps room).length := hA4.len.symm
        refine ⟨D, D2, ys, zs, rfl, rfl, s4 _ _ hy3, hz4, sz_of (by omega), fun P3 hP3 => ?_⟩
        have hA5 : A2 (IsP H4) (splitW ps n room part) (ys ++ zs) := (hA3.mono fun _ _ => IsP.mono s4).app hA4.mapL
        have s5 : Same H4 (upd H4 P3 (.lst (ys ++ zs))) := same_new hP3
        have h5 : (upd H4 P3 (.lst (ys ++ zs))) P3 = some (.lst (ys ++ zs)) := upd_same
        have hA6 := hA5.mono fun _ _ => IsP.mono s5
        have c5 := c4.trans s5
        have hN5 := (hN.mono s4).mono s5
        generalize upd H4 P3 (.lst (ys ++ zs)) = H5 at s5 h5 hA6 c5 hN5 ⊢
        -- return
        refine ⟨_, rfl, t, _, _, _, rfl, rfl, st_of (c5 _ _ h1), atI_nat (j := 0) rfl, _, _, rfl, rfl, _, rfl, P3, _, rfl, .inl ⟨sq_of h5, fun tq htq => ⟨(show 2 ≤ sizeLine by decide), fun t' ht' => ?_⟩⟩⟩
        have s6 : Same H5 (upd H5 tq (.tup (ys ++ zs))) := same_new htq
        have h6 : (upd H5 tq (.tup (ys ++ zs))) tq = some (.tup (ys ++ zs)) := upd_same
        generalize upd H5 tq (.tup (ys ++ zs)) = H6 at s6 h6 ht' ⊢
        generalize hH7 : upd H6 t' _ = H7
        have s7 : Same H6 H7 := by rw [← hH7]; exact same_new ht'
        have h7 : H7 t' = some (.tup [nv (n + 1), .ref tq]) := by rw [← hH7]; exact upd_same
        clear hH7
        have c7 := (c5.trans s6).trans s7
        have hN7 : NL H7 el (insOf ps room) := (hN5.mono s6).mono s7
        have w7 : WT H7 t' (n + 1) (splitW ps n room part) := ⟨tq, h7, _, s7 _ _ h6, (hA6.mono fun _ _ => IsP.mono s6).mono fun _ _ => IsP.mono s7⟩
        refine ⟨_, rfl, t, _, _, _, rfl, rfl, st_of (c7 _ _ h1), atI_nat (j := 1) rfl, tp, vs, rfl, .inr (st_of (c7 _ _ hv)), (vs.length : Int), rfl, RgOk.of_le (by omega) (by omega) (by omega) (by omega), fun sp hsp => ?_⟩
        rw [rgV0]
        refine ⟨_, rfl, sp, el, _, _, rfl, rfl, upd_same, same_new hsp _ _ hN7, ?_, fun p hp => ⟨(show 2 ≤ sizeLine by decide), fun u hu => ?_⟩⟩
        · rw [List.length_map, List.length_map, List.length_range]
          exact sz_of (by omega)
        · have s8 : Same H7 (upd H7 sp (.lst ((List.range vs.length).map nv))) := same_new hsp
          have s9 := same_new (o := .lst ((List.range vs.length).map nv ++ (insOf ps room).map nv)) hp
          have s10 := same_new (o := .tup [V.ref t', V.ref p]) hu
          exact q u t' (.ref p) _ (((c7.trans s8).trans s9).trans s10) upd_same (w7.tk (TK.of ((s8.trans s9).trans s10)))
end
end AW

set_option maxRecDepth 100000
set_option maxHeartbeats 4000000
namespace AW
open PySem PySem.Spec PyProof.Rows L2
/-! _law_part, _law_splits -/
theorem cut_to (xs : List V) (k : Nat) : cutV xs none (some (k : Int)) = xs.take k := by
  unfold cutV
  rw [HT.sIx_nat, HT.sIx_none, List.drop_zero, Nat.sub_zero]
  by_cases h : k ≤ xs.length
  · rw [Nat.min_eq_left h]
  · rw [Nat.min_eq_right (by omega), List.take_of_length_le (Nat.le_refl _), List.take_of_length_le (by omega)]
def backN : V → Nat
  | .int i => i.toNat
  | _ => 0
theorem perm_nv {ys : List V} {ns : List Nat} (h : ys.Perm (ns.map nv)) : ∃ L : List Nat, ys = L.map nv ∧ L.Perm ns := by
  refine ⟨ys.map backN, ?_, ?_⟩
  · rw [List.map_map]
    have q : ys.map (nv ∘ backN) = ys.map id := by
      apply List.map_congr_left
      intro z hz
      obtain ⟨n, _, rfl⟩ := List.mem_map.mp (h.mem_iff.mp hz)
      show V.int (((n : Int).toNat : Nat) : Int) = V.int (n : Int)
      rw [Int.toNat_natCast]
    rw [q, List.map_id]
  · have z := h.map backN
    rw [List.map_map] at z
    have q : ns.map (backN ∘ nv) = ns.map id := by
      apply List.map_congr_left
      intro n _
      exact Int.toNat_natCast n
    rw [q, List.map_id] at z
    exact z
theorem outs_nodup (ps : List (Nat × Nat)) (r : Nat) : (outsOf ps r).Nodup := List.Pairwise.filter _ List.nodup_range
theorem fit_take {ps : List (Nat × Nat)} {room k : Nat} {L : List Nat} (h : L.Perm (outsOf ps room)) (h1 : 1 ≤ k) (h2 : k < L.length) : PartFit ps room (L.take k) := by
  refine ⟨fun i hi => h.mem_iff.mp (List.mem_of_mem_take hi), fun z => ?_, L[k], h.mem_iff.mp (List.getElem_mem h2), fun z => ?_⟩
  · have := congrArg List.length z
    rw [List.length_take, List.length_nil] at this
    omega
  · have nd : L.Nodup := h.nodup_iff.mpr (outs_nodup ps room)
    obtain ⟨j, hj, e⟩ := List.mem_iff_getElem.mp z
    rw [List.length_take] at hj
    rw [List.getElem_take] at e
    have := (List.getElem_inj nd).mp e
    omega
def spPart : Sp := fun vs H Q _ => ∃ (b s t room n : Nat) (ps : List (Nat × Nat)), vs = [.ref b, .ref t, nv room] ∧ BagAt H b s ∧ WT H t n ps ∧ ps.length ≤ 1000 ∧
  ∀ p part H', H p = none → Keep b H H' → BagAt H' b s → NL H' p part → (part = [] ∨ PartFit ps room part) → Q (.ref p) H'
abbrev Npt : List Str := ["_law_bag_here", "_law_w", "_law_room", "_law_outs_here"]
def spSplits : Sp := fun vs H Q _ => ∃ (b s t n m rm am : Nat) (ps : List (Nat × Nat)), vs = [.ref b, .ref t, nv m, nv rm, nv am] ∧ BagAt H b s ∧ WT H t n ps ∧ AF.Good n ps ∧ n ≤ rm ∧ ps.length ≤ am ∧ m ≤ 100 ∧ rm ≤ 50 ∧ am ≤ 100 ∧
  ∀ t' n' ps' H', Keep b H H' → BagAt H' b s → WT H' t' n' ps' → AF.Good n' ps' → n' ≤ rm → ps'.length ≤ am → Q (.ref t') H'
abbrev Nss : List Str := ["_law_bag_here", "_law_w", "_law_times", "_law_rooms_most", "_law_arrows_most", "_law_k", "_law_room", "_law_part_here", "_law_good"]
section
variable {P : Program} {w : World} {K : PySem.W.Frag} {mg : Str → Option Value} {base : Heap} {f C : Addr} {fd : FuncData}
theorem sc_lpart : FnScope Npt ["_law_bag_here", "_law_w", "_law_room"] (defScope (top 39)) := ⟨rfl, rfl, rfl, by decide +kernel, rfl, by decide +kernel, by decide +kernel⟩
theorem ok_lpart (B : Bn mg) (F : FnP K "_law_part" "_law_part" (top 39) f fd) (hm : mg "_law_part" = some (.ref f)) (cO : C8.Cal P w K mg base 1 "_law_outs" (spRows 0) []) (cM : C8.Cal P w K mg base 2 "_law_mixed" spMixed []) (cP : C8.Cal P w K mg base 1 "_law_pull" spPull []) : C8.Cal P w K mg base 3 "_law_part" spPart [] := by
  refine cal_mk F hm (fun _ _ _ _ _ _ us hl => match us, hl with | [_, _, _], _ => rfl) sc_lpart (fun vs H Q E h => ?_) (fun cdv A outer s0 H vs Q E hr h => ?_)
  · obtain ⟨b, s, t, room, n, ps, rfl, _⟩ := h
    rfl
  · obtain ⟨b, s, t, room, n, ps, rfl, hb, hw, hl, q⟩ := h
    refine ⟨_, pss_cons (ps_set (i := 3) sc_lpart.nd rfl (Or.inl rfl) (C8.pe_c cM hr (by decide) rfl (pa_cons (pv 0) (pa_cons (C8.pe_c cO hr (by decide) rfl (pa_cons (pv 1) (pa_cons (pv 2) pa_nil))) pa_nil))))
      (pss_one (ps_ret (pe_ifExp (pt_cmpR op_gt (pe_callB call_len_seq (by rfl) B.len (by decide +kernel) (pa_cons (pv 3) pa_nil)) pe_int (nomark _))
        (pe_slice sl_list (pv 3) po_none (po_some (pe_op op_add pe_int (C8.pe_c cP hr (by decide) rfl (pa_cons (pv 0) (pa_cons (pe_op op_sub (pe_callB call_len_seq (by rfl) B.len (by decide +kernel) (pa_cons (pv 3) pa_nil)) pe_int) pa_nil)))))) (pe_lst pa_nil)))), ?_⟩
    refine ⟨_, rfl, _, rfl, _, rfl, t, room, n, ps, rfl, hw, by omega, fun l H1 hl0 s1 hN => ?_⟩
    have hN : NL H1 l (outsOf ps room) := hN
    have ol := outs_len ps room
    have hb1 := hb.mono s1
    refine ⟨b, s, l, _, rfl, hb1, ers_at hN (hb.new hl0).1, by rw [List.length_map]; omega, fun p ys H2 hp k2 b2 hy hpm => ?_⟩
    obtain ⟨L, rfl, hL⟩ := perm_nv hpm
    have hLl : L.length ≤ ps.length := by rw [hL.length_eq]; exact ol
    have k02 : Keep b H H2 := (Keep.of s1).trans k2
    obtain ⟨npb, nps⟩ := hb1.new hp
    refine ⟨_, rfl, p, _, rfl, .inl (sq_of hy), _, _, rfl, rfl, _, rfl, ?_⟩
    rw [List.length_map]
    by_cases h1 : (1 : Int) < (L.length : Int)
    · rw [decide_eq_true h1]
      refine iteT ?_
      have e1 : (L.length : Int) - 1 = ((L.length - 1 : Nat) : Int) := by omega
      refine ⟨_, rfl, _, rfl, _, rfl, p, _, rfl, .inl (sq_of hy), _, _, rfl, rfl, b, s, L.length - 1, (by
        show [V.ref b, V.int (((L.map nv).length : Int) - 1)] = _
        rw [List.length_map, e1]), b2, by omega, by omega, fun k H3 hk k3 b3 => ⟨_, _, rfl, rfl, ((k + 1 : Nat) : Int), (by
        show V.int ((1 : Int) + (k : Int)) = _
        congr 1
        omega), p, _, rfl, sq_of (keep_at k3 (ers_at hy npb)), fun p' hp' => ?_⟩⟩
      rw [cut_to, ← List.map_take]
      have hpH : H p' = none := by
        cases e : H p' with
        | none => rfl
        | some o =>
          exfalso
          by_cases hpb : p' = b
          · rw [hpb] at hp'
            exact b3.at.1 hp'
          · have z := keep_at (k02.trans k3) (ers_at e hpb)
            rw [hp'] at z
            cases z
      exact q p' (L.take (k + 1)) _ hpH ((k02.trans k3).trans (Keep.of (same_new hp'))) (b3.mono (same_new hp')) upd_same (.inr (fit_take hL (by omega) (by omega)))
    · rw [decide_eq_false h1]
      refine iteF ⟨Nat.zero_le _, fun p' hp' => ?_⟩
      have hpH : H p' = none := by
        cases e : H p' with
        | none => rfl
        | some o =>
          exfalso
          by_cases hpb : p' = b
          · rw [hpb] at hp'
            exact b2.at.1 hp'
          · have z := keep_at k02 (ers_at e hpb)
            rw [hp'] at z
            cases z
      exact q p' [] _ hpH (k02.trans (Keep.of (same_new hp'))) (b2.mono (same_new hp')) upd_same (.inl rfl)
end
end AW

set_option maxRecDepth 100000
set_option maxHeartbeats 4000000
namespace AW
open PySem PySem.Spec PyProof.Rows L2
/-! _law_splits -/
def SplitsI (H : Hp) (b s m rm am : Nat) (σ : L2.St) (H' : Hp) : Prop := ∃ (t n : Nat) (ps : List (Nat × Nat)) (v5 v6 v7 v8 : Option V), σ = [some (.ref b), some (.ref t), some (nv m), some (nv rm), some (nv am), v5, v6, v7, v8] ∧ Keep b H H' ∧ BagAt H' b s ∧ WT H' t n ps ∧ AF.Good n ps ∧ n ≤ rm ∧ ps.length ≤ am
section
variable {P : Program} {w : World} {K : PySem.W.Frag} {mg : Str → Option Value} {base : Heap} {f C : Addr} {fd : FuncData}
theorem sc_splits : FnScope Nss ["_law_bag_here", "_law_w", "_law_times", "_law_rooms_most", "_law_arrows_most"] (defScope (top 40)) := ⟨rfl, rfl, rfl, by decide +kernel, rfl, by decide +kernel, by decide +kernel⟩
theorem ok_splits (B : Bn mg) (F : FnP K "_law_splits" "_law_splits" (top 40) f fd) (hm : mg "_law_splits" = some (.ref f)) (cP : C8.Cal P w K mg base 1 "_law_pull" spPull []) (cA : C8.Cal P w K mg base 3 "_law_part" spPart []) (cI : C8.Cal P w K mg base 1 "_law_ins" (spRows 1) []) (cS : C8.Cal P w K mg base 2 "_law_split" spSplit []) :
    C8.Cal P w K mg base 4 "_law_splits" spSplits [] := by
  refine cal_mk F hm (fun _ _ _ _ _ _ us hl => match us, hl with | [_, _, _, _, _], _ => rfl) sc_splits (fun vs H Q E h => ?_) (fun cdv A outer s0 H vs Q E hr h => ?_)
  · obtain ⟨b, s, t, n, m, rm, am, ps, rfl, _⟩ := h
    rfl
  · obtain ⟨b, s, t, n, m, rm, am, ps, rfl, hb, hw, G, hn, hl, hm', hrm, ham, q⟩ := h
    refine ⟨_, pss_cons (ps_for PassesOwn.never rfl (pi_range1 rfl B.range (pa_cons (pv 2) pa_nil)) (pg_name (i := 5) sc_splits.nd rfl (Or.inl rfl))
        (pss_cons (ps_set (i := 6) sc_splits.nd rfl (Or.inl rfl) (C8.pe_c cP hr (by decide) rfl (pa_cons (pv 0) (pa_cons (pe_ix ix_tup (pv 1) pe_int (fun _ _ => rfl)) pa_nil))))
        (pss_cons (ps_set (i := 7) sc_splits.nd rfl (Or.inl rfl) (C8.pe_c cA hr (by decide) rfl (pa_cons (pv 0) (pa_cons (pv 1) (pa_cons (pv 6) pa_nil)))))
        (pss_cons (ps_set (i := 8) sc_splits.nd rfl (Or.inl rfl) (pe_and (pe_cmpR (op_neD hr.units) (pv 7) (pe_lst pa_nil) (nomark _)) (pe_and (pe_cmpR op_lt (pe_ix ix_tup (pv 1) pe_int (fun _ _ => rfl)) (pv 3) (nomark _))
          (pe_one (pe_cmpR op_le (pe_op op_add (pe_callB call_len_seq (by rfl) B.len (by decide +kernel) (pa_cons (pe_ix ix_tup (pv 1) pe_int (fun _ _ => rfl)) pa_nil)) (pe_callB call_len_seq (by rfl) B.len (by decide +kernel) (pa_cons (C8.pe_c cI hr (by decide) rfl (pa_cons (pv 1) (pa_cons (pv 6) pa_nil))) pa_nil))) (pv 4) (nomark _))))))
        (pss_one (ps_if (pt_val (pv 8)) (pss_one (ps_set (i := 1) sc_splits.nd rfl (Or.inl rfl) (pe_ix ix_tup (C8.pe_c cS hr (by decide) rfl (pa_cons (pv 1) (pa_cons (pv 6) (pa_cons (pv 7) pa_nil)))) pe_int (fun _ _ => rfl)))) pss_nil))))))
      (pss_one (ps_ret (pv 1))), ?_⟩
    refine ⟨_, rfl, (m : Int), rfl, by omega, by omega, for_it (walk_rangeN (n := m)) (fun i σ H' => SplitsI H b s m rm am σ H') ⟨t, n, ps, none, none, none, none, rfl, Same.refl _, hb, hw, G, hn, hl⟩ (fun _ _ _ _ _ => trivial) ?_ ?_⟩
    · rintro i xx σ H1 H2 hi ⟨t, n, ps, v5, v6, v7, v8, rfl, k1, b1, w1, G, hn, hl⟩ ⟨rfl, rfl⟩
      have hn1 := G.1
      obtain ⟨tp, h1, vs, hv, ha⟩ := id w1
      have hlv : vs.length = ps.length := ha.len.symm
      -- room
      refine ⟨_, rfl, _, rfl, t, _, _, _, rfl, rfl, st_of h1, atI_nat (j := 0) rfl, b, s, n, rfl, b1, hn1, by omega, fun room H3 hroom k3 b3 => ?_⟩
      have w3 := w1.tk (TK.keep b1 k3)
      -- part
      refine ⟨_, rfl, _, rfl, _, rfl, b, s, t, room, n, ps, rfl, b3, w3, by omega, fun p part H4 hp k4 b4 hN hfit => ?_⟩
      have w4 := w3.tk (TK.keep b3 k4)
      have k14 : Keep b H H4 := (k1.trans k3).trans k4
      have skip : ∀ (H5 : Hp) (v : Option V), Same H4 H5 → SplitsI H b s m rm am [some (.ref b), some (.ref t), some (nv m), some (nv rm), some (nv am), some (nv i), some (nv room), some (.ref p), v] H5 := fun H5 v s5 =>
        ⟨t, n, ps, _, _, _, _, rfl, k14.trans (Keep.of s5), b4.mono s5, w4.tk (TK.of s5), G, hn, hl⟩
      -- good
      refine ⟨_, rfl, Nat.zero_le _, fun e he => ⟨_, _, dp_N (hN.mono (same_new he)), dp_nil upd_same, sh_N _, sh_nil, _, rfl, ?_⟩⟩
      have s5 : Same H4 (upd H4 e (.lst [])) := same_new he
      generalize upd H4 e (.lst []) = H5 at s5 ⊢
      have en : PyData.eqv (dN part) (.list []) = part.isEmpty := by
        unfold dN
        rw [eqv_nil, List.isEmpty_map]
      rw [en]
      rcases hfit with rfl | hfit
      · exact iteF ⟨_, rfl, false, rfl, iteF (skip H5 _ s5)⟩
      · have e2 : part.isEmpty = false := by
          cases part with
          | nil => exact absurd rfl hfit.2.1
          | cons _ _ => rfl
        rw [e2]
        refine iteT ?_
        have w5 := w4.tk (TK.of s5)
        obtain ⟨tp5, h5, vs5, hv5, ha5⟩ := id w5
        have hlv5 : vs5.length = ps.length := ha5.len.symm
        refine ⟨_, rfl, t, _, _, _, rfl, rfl, st_of h5, atI_nat (j := 0) rfl, _, rfl, _, _, rfl, rfl, _, rfl, ?_⟩
        by_cases hlt : (n : Int) < (rm : Int)
        · rw [decide_eq_true hlt]
          refine iteT ?_
          refine ⟨_, rfl, t, _, _, _, rfl, rfl, st_of h5, atI_nat (j := 1) rfl, tp5, vs5, rfl, .inr (st_of hv5), _, rfl, _, rfl, t, room, n, ps, rfl, w5, by omega, fun el H6 hel s6 hN6 => ?_⟩
          have hN6 : NL H6 el (insOf ps room) := hN6
          refine ⟨el, _, rfl, .inl (sq_of hN6), _, _, rfl, rfl, _, rfl, _, _, rfl, rfl, ?_⟩
          rw [List.length_map, hlv5]
          dsimp only
          have s46 : Same H4 H6 := s5.trans s6
          by_cases hle : (ps.length : Int) + ((insOf ps room).length : Int) ≤ (am : Int)
          · rw [decide_eq_true hle]
            refine ⟨_, rfl, true, rfl, iteT ?_⟩
            refine ⟨_, rfl, _, rfl, _, rfl, t, room, n, p, part, ps, rfl, w4.tk (TK.of s46), hN.mono s46, by omega, fun u t' v H7 s7 hu w7 => ?_⟩
            refine ⟨u, _, _, _, rfl, rfl, st_of hu, atI_nat (j := 0) rfl, ?_⟩
            refine ⟨t', n + 1, _, _, _, _, _, rfl, (k14.trans (Keep.of s46)).trans (Keep.of s7), b4.mono (s46.trans s7), w7, split_good G hfit, by omega, ?_⟩
            rw [split_len]
            omega
          · rw [decide_eq_false hle]
            exact ⟨_, rfl, false, rfl, iteF (skip H6 _ s46)⟩
        · rw [decide_eq_false hlt]
          exact iteF ⟨_, rfl, false, rfl, iteF (skip H5 _ s5)⟩
    · rintro σ H1 ⟨t, n, ps, v5, v6, v7, v8, rfl, k1, b1, w1, G, hn, hl⟩
      exact ⟨_, rfl, q t n ps H1 k1 b1 w1 G hn hl⟩
end
end AW

set_option maxRecDepth 100000
set_option maxHeartbeats 4000000
namespace AW
open PySem PySem.Spec PyProof.Rows L2
/-! _law_rounds -/
def spLRounds : Sp := fun vs H Q _ => ∃ (t n L : Nat) (ps : List (Nat × Nat)), vs = [.ref t, nv L] ∧ WT H t n ps ∧ AF.Good n ps ∧ n ≤ 100 ∧ ps.length ≤ 1000 ∧ L ≤ 60 ∧ ∀ H', Same H H' → Q (.int (AF.roundsM n ps L)) H'
abbrev Nlr : List Str := ["_law_w", "_law_length", "_law_many", "_law_home", "_law_row", "_law_step", "_law_room", "_law_arrow"]
def scLr : Scope := { kind := .function, names := [(".0", .local), ("_law_room", .local), ("sum", .globalImplicit), ("_law_ins", .globalImplicit), ("_law_row", .free), ("_law_w", .free)], isGenerator := false, isCoroutine := false, more := [] }
abbrev tLr (K : PySem.W.Frag) : TE := tCB (rSum K) (tCons (tLc (iList K (tCall (spRows 1) [] E0 (tCons (tVar 0) (tCons (tVar 6) tNil)))) (gName 7) tYes (tOp (rIxL K) (tVar 4) (tOp (rIxT K) (tOp (rIxT K) (tOp (rIxT K) (tVar 0) (tC (.int 1))) (tVar 7)) (tC (.int 0)))) [7]) tNil)
section
variable {P : Program} {w : World} {K : PySem.W.Frag} {mg : Str → Option Value} {base : Heap} {f C : Addr} {fd : FuncData}
theorem sc_lr : FnScope Nlr ["_law_w", "_law_length"] (defScope (top 41)) := ⟨rfl, rfl, rfl, by decide +kernel, rfl, by decide +kernel, by decide +kernel⟩
theorem ok_lrounds (B : Bn mg) (F : FnP K "_law_rounds" "_law_rounds" (top 41) f fd) (hm : mg "_law_rounds" = some (.ref f)) (cI : C8.Cal P w K mg base 1 "_law_ins" (spRows 1) []) : C8.Cal P w K mg base 2 "_law_rounds" spLRounds [] := by
  refine cal_mk F hm (fun _ _ _ _ _ _ us hl => match us, hl with | [_, _], _ => rfl) sc_lr (fun vs H Q E h => ?_) (fun cdv A outer s H vs Q E hr h => ?_)
  · obtain ⟨t, n, L, ps, rfl, _⟩ := h
    rfl
  · obtain ⟨tw, n, L, ps, rfl, hw, G, hn, hl, hL2, q⟩ := h
    obtain ⟨tp, h1, vs, hv, ha⟩ := id hw
    refine ⟨_, pss_cons (ps_set (i := 2) sc_lr.nd rfl (Or.inl rfl) pe_int)
      (pss_cons (ps_for PassesOwn.never rfl (pi_range1 rfl B.range (pa_cons (pe_ix ix_tup (pv 0) pe_int (fun _ _ => rfl)) pa_nil)) (pg_name (i := 3) sc_lr.nd rfl (Or.inr rfl))
        (pss_cons (ps_set (i := 4) sc_lr.nd rfl (Or.inr rfl) (pe_lc (own := [("_law_room", 6)]) (g := gName 6) (tt := tYes) rfl sc_lr.nd (pi_range1 rfl B.range (pa_cons (pe_ix ix_tup (pv 0) pe_int (fun _ _ => rfl)) pa_nil)) (blkOk_by (N := Nlr) (sc := defScope (top 41)) (by decide +kernel))
            (fun _ _ _ _ _ => pg_name (i := 6) sc_lr.nd rfl (Or.inl rfl)) (fun _ _ _ _ _ => pts_nil) (fun _ _ _ _ _ => pe_callTy (T := "int") call_int1 (by rfl) B.int (by decide +kernel) (pa_cons (pe_cmpR op_eq (pv 6) (pv 3) (nomark _)) pa_nil))))
        (pss_cons (ps_for PassesOwn.never rfl (pi_range1 rfl B.range (pa_cons (pv 1) pa_nil)) (pg_name (i := 5) sc_lr.nd rfl (Or.inl rfl))
          (pss_one (ps_set (i := 4) sc_lr.nd rfl (Or.inr rfl) (pe_lc (own := [("_law_room", 6)]) (g := gName 6) (tt := tYes) (te := tLr K) rfl sc_lr.nd (pi_range1 rfl B.range (pa_cons (pe_ix ix_tup (pv 0) pe_int (fun _ _ => rfl)) pa_nil)) (blkOk_by (N := Nlr) (sc := defScope (top 41)) (by decide +kernel))
            (fun _ _ _ _ _ => pg_name (i := 6) sc_lr.nd rfl (Or.inl rfl)) (fun _ _ _ _ _ => pts_nil)
            (fun _ _ _ _ _ => pe_callB (cr_sum rfl) (by rfl) B.sum (by decide +kernel) (pa_cons (pe_lc (own := [("_law_arrow", 7)]) rfl sc_lr.nd (pi_list (C8.pe_c cI hr (by decide) rfl (pa_cons (pv 0) (pa_cons (pv 6) pa_nil)))) (blkOk_by (N := Nlr) (sc := relS scLr (defScope (top 41))) (by decide +kernel))
              (fun _ _ _ _ _ => pg_name (i := 7) sc_lr.nd rfl (Or.inl rfl)) (fun _ _ _ _ _ => pts_nil)
              (fun _ _ _ _ _ => pe_ix ix_list (pv 4) (pe_ix ix_tup (pe_ix ix_tup (pe_ix ix_tup (pv 0) pe_int (fun _ _ => rfl)) (pv 7) (fun _ _ => rfl)) pe_int (fun _ _ => rfl)) (fun _ _ => rfl))) pa_nil))))))
        (pss_one (ps_set (i := 2) sc_lr.nd rfl (Or.inl rfl) (pe_op op_add (pv 2) (pe_ix ix_list (pv 4) (pv 3) (fun _ _ => rfl))))))))
      (pss_one (ps_ret (pv 2)))), ?_⟩
    -- for home in range(w[0])
    refine ⟨_, rfl, tw, _, _, _, rfl, rfl, st_of h1, atI_nat (j := 0) rfl, (n : Int), rfl, by omega, by omega, for_it (walk_rangeN (n := n))
      (fun i σ H1 => ∃ v3 v4 v5 : Option V, σ = [some (.ref tw), some (nv L), some (.int (AF.sm i fun h => AF.paths ps h L h)), v3, v4, v5, none, none] ∧ Same H H1) ⟨none, none, none, rfl, Same.refl _⟩ (fun _ _ _ _ _ => trivial) ?_ ?_⟩
    · rintro h xx σ H1 H2 hh ⟨v3, v4, v5, rfl, s1⟩ ⟨rfl, rfl⟩
      refine ⟨_, rfl, tw, _, _, _, rfl, rfl, st_of (s1 _ _ h1), atI_nat (j := 0) rfl, (n : Int), rfl, by omega, by omega, fun D hD => lc_all (walk_rangeN (n := n)) hD (fun r y _ => y = .int (AF.paths ps h 0 r)) (fun _ _ _ _ _ h => h) (fun _ _ => trivial) (by omega) gName_mono ?_ ?_⟩
      · rintro r xx H' H'' ys hy hr s3 ⟨rfl, rfl⟩ Ky hk
        refine ⟨rfl, _, rfl, _, rfl, rfl, .inr ⟨_, rfl, hk _ _ (Same.refl _) ?_⟩⟩
        show V.int (if decide (nv r = nv h) = true then 1 else 0) = V.int (if r = h then 1 else 0)
        by_cases e : r = h
        · rw [if_pos e, if_pos (decide_eq_true (by rw [e]))]
        · rw [if_neg e, if_neg (fun z => e (by have z := of_decide_eq_true z; injection z with z; omega))]
      · intro H3 ys s3 hy hA
        have eys : ys = rowOf n ps h 0 := A2.eqmap (f := fun r => V.int (AF.paths ps h 0 r)) hA
        subst eys
        -- for step in range(length)
        refine ⟨_, rfl, (L : Int), rfl, by omega, by omega, for_it (walk_rangeN (n := L)) (fun t σ H4 => ∃ (p : Addr) (v5 : Option V), σ = [some (.ref tw), some (nv L), some (.int (AF.sm h fun h => AF.paths ps h L h)), some (nv h), some (.ref p), v5, none, none] ∧ Same H3 H4 ∧ H4 p = some (.lst (rowOf n ps h t)))
          ⟨D, v5, rfl, Same.refl _, hy⟩ (fun _ _ _ _ _ => trivial) ?_ ?_⟩
        · rintro t xx σ H4 H5 ht ⟨p, v6, rfl, s4, hp⟩ ⟨rfl, rfl⟩
          have c4 : Same H H5 := (s1.trans s3).trans s4
          refine ⟨_, rfl, tw, _, _, _, rfl, rfl, st_of (c4 _ _ h1), atI_nat (j := 0) rfl, (n : Int), rfl, by omega, by omega, fun D2 hD2 => lc_all (walk_rangeN (n := n)) hD2 (fun r y _ => y = .int (AF.paths ps h (t + 1) r)) (fun _ _ _ _ _ h => h) (fun _ _ => trivial) (by omega) gName_mono ?_ ?_⟩
          · rintro r xx H' H'' ys hy hr s5 ⟨rfl, rfl⟩ Ky hk
            have c5 : Same H H'' := c4.trans s5
            refine ⟨rfl, ?_⟩
            refine ⟨_, rfl, _, rfl, tw, r, n, ps, rfl, hw.tk (TK.of c5), by omega, fun l H6 hl0 s6 hN => ?_⟩
            have hN : NL H6 l (insOf ps r) := hN
            refine ⟨l, rfl, ⟨_, sq_of hN⟩, fun D3 hD3 => ?_⟩
            refine lc_N hN hD3 (fun a y _ => y = .int (AF.paths ps h t (ps.getD a (0, 0)).1)) (fun _ _ _ _ _ h => h) (Nat.le_trans (ins_len ps r) (by omega)) gName_mono ?_ ?_
            · rintro a H7 ys2 ham hy2 s7 Ky2 hk2
              obtain ⟨a1, a2⟩ := ins_lt ham
              have c6 : Same H H7 := (c5.trans s6).trans s7
              obtain ⟨tt, ett, htt⟩ := arrow_at ha a1
              refine ⟨rfl, _, rfl, _, rfl, tw, _, _, _, rfl, rfl, st_of (c6 _ _ h1), atI_nat (j := 1) rfl, _, rfl, tp, vs, _, _, rfl, rfl, st_of (c6 tp _ hv), atI_nat ett, tt, _, _, _, rfl, rfl, st_of (c6 tt _ htt), atI_nat (j := 0) rfl, p, _, _, _, rfl, rfl, sq_of (((s5.trans s6).trans s7) p _ hp), atI_nat (row_get ?_), hk2 _ _ (Same.refl _) rfl⟩
              exact (G.2.1 _ (getD_mem a1)).1
            · intro H7 ys2 s7 hy2 hA2
              have e2 : ys2 = ((insOf ps r).map fun a => AF.paths ps h t (ps.getD a (0, 0)).1).map V.int := by
                rw [List.map_map]
                exact A2.eqmap (f := fun a => V.int (AF.paths ps h t (ps.getD a (0, 0)).1)) hA2
              subst e2
              exact ⟨D3, _, rfl, sq_of hy2, hk _ _ (s6.trans s7) (congrArg V.int (paths_succ ps h t r))⟩
          · intro H6 ys s5 hy hA
            have eys : ys = rowOf n ps h (t + 1) := A2.eqmap (f := fun r => V.int (AF.paths ps h (t + 1) r)) hA
            subst eys
            exact ⟨D2, _, rfl, s4.trans s5, hy⟩
        · rintro σ H4 ⟨p, v6, rfl, s4, hp⟩
          refine ⟨_, rfl, _, rfl, _, rfl, p, _, _, _, rfl, rfl, sq_of hp, atI_nat (row_get hh), _, _, rfl, rfl, some (nv h), some (.ref p), v6, ?_, (s1.trans s3).trans s4⟩
          rw [AF.sm_succ]
          rfl
    · rintro σ H1 ⟨v3, v4, v5, rfl, s1⟩
      exact ⟨_, rfl, q _ s1⟩
end
end AW

set_option maxRecDepth 100000
set_option maxHeartbeats 4000000
namespace AW
open PySem PySem.Spec PyProof.Rows L2
/-! _law_orders -/
def ordS (n : Nat) (row : List Nat) : List (List Nat) := ((List.range n).filter fun o => decide (o ∉ row)).map fun o => row ++ [o]
def ordF (n : Nat) : Nat → List (List Nat)
  | 0 => [[]]
  | k + 1 => (ordF n k).flatMap (ordS n)
theorem ord_len {n : Nat} : ∀ {k : Nat} {row : List Nat}, row ∈ ordF n k → row.length = k
  | 0, row, h => by
    rw [List.mem_singleton.mp h]
    rfl
  | k + 1, row, h => by
    obtain ⟨r, hr, h⟩ := List.mem_flatMap.mp h
    obtain ⟨o, _, rfl⟩ := List.mem_map.mp h
    rw [List.length_append, ord_len hr]
    rfl
theorem ordS_len (n : Nat) (row : List Nat) : (ordS n row).length ≤ n := by
  unfold ordS
  rw [List.length_map]
  have h := List.length_filter_le (fun o => decide (o ∉ row)) (List.range n)
  rw [List.length_range] at h
  exact h
theorem flat_len {n : Nat} : ∀ l : List (List Nat), (l.flatMap (ordS n)).length ≤ l.length * n
  | [] => Nat.zero_le _
  | a :: l => by
    rw [List.flatMap_cons, List.length_append, List.length_cons, Nat.succ_mul]
    have := ordS_len n a
    have := flat_len (n := n) l
    omega
theorem ord_size (n : Nat) : ∀ k, (ordF n k).length ≤ n ^ k
  | 0 => Nat.le_refl _
  | k + 1 => by
    have h := flat_len (n := n) (ordF n k)
    have h2 := Nat.mul_le_mul_right n (ord_size n k)
    rw [Nat.pow_succ]
    exact Nat.le_trans h h2
theorem ord_mem {n : Nat} : ∀ (k : Nat) (l : List Nat), l.Nodup → (∀ x ∈ l, x < n) → l.length = k → l ∈ ordF n k
  | 0, l, _, _, hl => by
    rw [List.eq_nil_of_length_eq_zero hl]
    exact List.mem_singleton.mpr rfl
  | k + 1, l, hd, hb, hl => by
    have hne : l ≠ [] := fun z => by rw [z] at hl; cases hl
    have e := List.dropLast_concat_getLast hne
    have hd2 := hd
    rw [← e, List.nodup_append] at hd2
    have hm := ord_mem k l.dropLast hd2.1 (fun x hx => hb x (List.dropLast_subset l hx)) (by rw [List.length_dropLast, hl]; rfl)
    refine List.mem_flatMap.mpr ⟨_, hm, ?_⟩
    unfold ordS
    refine List.mem_map.mpr ⟨l.getLast hne, List.mem_filter.mpr ⟨List.mem_range.mpr (hb _ (List.getLast_mem hne)), decide_eq_true fun z => ?_⟩, e⟩
    exact hd2.2.2 _ z _ (List.mem_singleton.mpr rfl) rfl
/-- a tuple of ints -/
def IsT (H : Hp) (row : List Nat) (v : V) : Prop := ∃ t, v = .ref t ∧ H t = some (.tup (row.map nv))
theorem IsT.tk {H H' : Hp} {row : List Nat} {v : V} (k : TK H H') (h : IsT H row v) : IsT H' row v := by
  obtain ⟨t, e, h⟩ := h
  exact ⟨t, e, k _ _ h⟩
theorem IsT.mono {H H' : Hp} {row : List Nat} {v : V} (s : Same H H') (h : IsT H row v) : IsT H' row v := h.tk (TK.of s)
theorem IsT.ers {H : Hp} {row : List Nat} {v : V} {D : Addr} {xs : List V} (hD : H D = some (.lst xs)) (h : IsT H row v) : IsT (ers D H) row v := by
  obtain ⟨t, r, h⟩ := h
  exact ⟨t, r, by rw [ers_ne (ne_of h hD (by intro z; cases z))]; exact h⟩
def spOrders : Sp := fun vs H Q _ => ∃ n : Nat, vs = [nv n] ∧ n ≤ 6 ∧ ∀ p H' ys, H p = none → Same H H' → H' p = some (.lst ys) → A2 (IsT H') (ordF n n) ys → Q (.ref p) H'
abbrev Nor : List Str := ["_law_many", "_law_found", "_law_k", "_law_later", "_law_row", "_law_one"]
section
variable {P : Program} {w : World} {K : PySem.W.Frag} {mg : Str → Option Value} {base : Heap} {f C : Addr} {fd : FuncData}
theorem sc_ord : FnScope Nor ["_law_many"] (defScope (top 42)) := ⟨rfl, rfl, rfl, by decide +kernel, rfl, by decide +kernel, by decide +kernel⟩
theorem ok_orders (B : Bn mg) (F : FnP K "_law_orders" "_law_orders" (top 42) f fd) (hm : mg "_law_orders" = some (.ref f)) : C8.Cal P w K mg base 1 "_law_orders" spOrders [] := by
  refine cal_mk F hm (fun _ _ _ _ _ _ us hl => match us, hl with | [_], _ => rfl) sc_ord (fun vs H Q E h => ?_) (fun cdv A outer s H vs Q E hr h => ?_)
  · obtain ⟨n, rfl, _⟩ := h
    rfl
  · obtain ⟨n, rfl, hn, q⟩ := h
    refine ⟨_, pss_cons (ps_set (i := 1) sc_ord.nd rfl (Or.inl rfl) (pe_lst (pa_cons (pe_tup pa_nil) pa_nil)))
      (pss_cons (ps_for PassesOwn.never rfl (pi_range1 rfl B.range (pa_cons (pv 0) pa_nil)) (pg_name (i := 2) sc_ord.nd rfl (Or.inl rfl))
        (pss_cons (ps_set (i := 3) sc_ord.nd rfl (Or.inl rfl) (pe_lst pa_nil))
        (pss_cons (ps_for PassesOwn.never rfl (pi_list (pv 1)) (pg_name (i := 4) sc_ord.nd rfl (Or.inr rfl))
          (pss_one (ps_set (i := 3) sc_ord.nd rfl (Or.inl rfl) (pe_op op_cat (pv 3) (pe_lc (own := [("_law_one", 5)]) (g := gName 5) (tt := tTest (tOp (rIn K true) (tVar 5) (tVar 4))) (te := tOp (rCatA K) (tVar 4) (tTup (tCons (tVar 5) tNil))) rfl sc_ord.nd (pi_range1 rfl B.range (pa_cons (pv 0) pa_nil)) (blkOk_by (N := Nor) (sc := defScope (top 42)) (by decide +kernel))
              (fun _ _ _ _ _ => pg_name (i := 5) sc_ord.nd rfl (Or.inl rfl)) (fun _ _ _ _ _ => pts_one (pt_cmpR op_notIn_seq (pv 5) (pv 4) (by rfl)))
              (fun _ _ _ _ _ => pe_op op_catA (pv 4) (pe_tup (pa_cons (pv 5) pa_nil))))))))
        (pss_one (ps_set (i := 1) sc_ord.nd rfl (Or.inl rfl) (pv 3))))))
      (pss_one (ps_ret (pv 1)))), ?_⟩
    refine ⟨Nat.zero_le _, fun t0 ht0 => ⟨(show 1 ≤ sizeLine by decide), fun f0 hf0 => ?_⟩⟩
    have s0 : Same H (upd (upd H t0 (.tup [])) f0 (.lst [.ref t0])) := (same_new ht0).trans (same_new hf0)
    have hf1 : (upd (upd H t0 (.tup [])) f0 (.lst [.ref t0])) f0 = some (.lst [.ref t0]) := upd_same
    have hA0 : A2 (IsT (upd (upd H t0 (.tup [])) f0 (.lst [.ref t0]))) (ordF n 0) [.ref t0] := .cons ⟨t0, rfl, same_new hf0 _ _ upd_same⟩ .nil
    have hfH := (same_new ht0).free hf0
    generalize upd (upd H t0 (.tup [])) f0 (.lst [.ref t0]) = H0 at s0 hf1 hA0 ⊢
    have h6 : ∀ k, k < n → (ordF n k).length ≤ 46656 := fun k hk => by
      refine Nat.le_trans (ord_size n k) (Nat.le_trans (Nat.pow_le_pow_left hn k) ?_)
      exact Nat.le_trans (Nat.pow_le_pow_right (by decide) (show k ≤ 6 by omega)) (by decide)
    refine ⟨_, rfl, (n : Int), rfl, by omega, by omega, for_it (walk_rangeN (n := n)) (fun k σ H1 => ∃ (fp : Addr) (v2 v3 v4 : Option V) (ys : List V), σ = [some (nv n), some (.ref fp), v2, v3, v4, none] ∧ Same H H1 ∧ H fp = none ∧ H1 fp = some (.lst ys) ∧ A2 (IsT H1) (ordF n k) ys)
      ⟨f0, none, none, none, _, rfl, s0, hfH, hf1, hA0⟩ (fun _ _ _ _ _ => trivial) ?_ ?_⟩
    · rintro k xx σ H1 H2 hk ⟨fp, v2, v3, v4, ys, rfl, s1, hfp, hy, hA⟩ ⟨rfl, rfl⟩
      refine ⟨Nat.zero_le _, fun l0 hl0 => ?_⟩
      have s2 : Same H2 (upd H2 l0 (.lst [])) := same_new hl0
      have hl1 : (upd H2 l0 (.lst [])) l0 = some (.lst []) := upd_same
      generalize upd H2 l0 (.lst []) = H3 at s2 hl1 ⊢
      have hy3 := s2 _ _ hy
      have hA3 := hA.mono fun _ _ => IsT.mono s2
      have hyl : ys.length = (ordF n k).length := hA.len.symm
      have c3 := s1.trans s2
      refine ⟨_, rfl, fp, rfl, ⟨_, sq_of hy3⟩, for_it (walk_list (K := K) (a := fp) (xs := ys)) (fun j σ H4 => ∃ (lp : Addr) (v4 : Option V) (zs : List V), σ = [some (nv n), some (.ref fp), some (nv k), some (.ref lp), v4, none] ∧ Same H3 H4 ∧ H lp = none ∧ H4 lp = some (.lst zs) ∧ A2 (IsT H4) (((ordF n k).take j).flatMap (ordS n)) zs)
        ⟨l0, v4, [], rfl, Same.refl _, s1.free hl0, hl1, .nil⟩ (fun _ _ _ _ ⟨_, _, _, _, s', _⟩ => sq_of (s' _ _ hy3)) ?_ ?_⟩
      · rintro j xx σ H4 H5 hj ⟨lp, v5, zs, rfl, s4, hlp, hz, hAz⟩ ⟨rfl, hxx⟩
        obtain ⟨row, erow, tr, rfl, htr⟩ := hA3.get2 hxx
        have htr5 := s4 _ _ htr
        have hzl : zs.length ≤ 300000 := by
          rw [← hAz.len]
          refine Nat.le_trans (flat_len _) ?_
          have h1 : ((ordF n k).take j).length ≤ 46656 := Nat.le_trans (List.length_take_le _ _) (by have := h6 k hk; omega)
          exact Nat.le_trans (Nat.mul_le_mul h1 hn) (by decide)
        refine ⟨_, rfl, _, rfl, (n : Int), rfl, by omega, by omega, fun D hD => lc_gen (walk_rangeN (n := n)) hD (fun o => decide (o ∉ row)) (fun o y H' => IsT H' (row ++ [o]) y) (fun _ _ _ _ => IsT.mono) (fun _ _ => trivial) (by omega) ?_ ?_⟩
        · rintro o xx H6 H7 us hu ho s6 ⟨rfl, rfl⟩ Kn Ky kn ky
          refine ⟨rfl, _, rfl, _, rfl, tr, _, rfl, .inr (st_of (s6 _ _ htr5)), rfl, flat_nv row, _, rfl, ?_⟩
          rw [if_pos rfl, in_nv]
          by_cases h : o ∈ row
          · rw [decide_eq_true h]
            exact iteF (kn (decide_eq_false fun z => z h) _ (Same.refl _))
          · rw [decide_eq_false h]
            refine iteT ⟨_, rfl, _, rfl, (show 1 ≤ sizeLine by decide), fun p hp => ?_⟩
            have htr7 := same_new (o := .tup [nv o]) hp _ _ (s6 _ _ htr5)
            have sp : Same H7 (upd H7 p (.tup [nv o])) := same_new hp
            have hp2 : (upd H7 p (.tup [nv o])) p = some (.tup [nv o]) := upd_same
            have hu2 := sp _ _ hu
            generalize upd H7 p (.tup [nv o]) = H8 at sp hp2 htr7 hu2 ⊢
            refine ⟨tr, p, _, _, rfl, rfl, st_of htr7, st_of hp2, ?_, fun e => ?_, (fun _ e => (by cases e)), fun _ _ p2 hp3 => ?_⟩
            · rw [List.length_map]
              have : row.length = k := ord_len (List.mem_of_getElem? erow)
              rw [this]
              exact sz_of (by show k + 1 ≤ 1000000; omega)
            · refine ky (decide_eq_true h) _ _ sp (IsT.ers hu2 ⟨p, rfl, ?_⟩)
              have er : row = [] := List.map_eq_nil_iff.mp e
              rw [er]
              exact hp2
            · have s9 : Same H8 (upd H8 p2 (.tup (row.map nv ++ [nv o]))) := same_new hp3
              refine ky (decide_eq_true h) _ _ (sp.trans s9) (IsT.ers (s9 _ _ hu2) ⟨p2, rfl, ?_⟩)
              rw [upd_same, List.map_append]
              first | done | rfl
        · intro H6 cs s6 hc hAc
          have hz6 := s6 _ _ hz
          have hcl : cs.length ≤ 6 := by
            rw [← hAc.len]
            exact Nat.le_trans (List.length_filter_le _ _) (by rw [List.length_range]; exact hn)
          refine ⟨lp, D, zs, cs, rfl, rfl, hz6, hc, sz_of (by omega), fun p hp => ?_⟩
          have s7 := same_new (o := .lst (zs ++ cs)) hp
          refine ⟨p, _, zs ++ cs, rfl, (s4.trans s6).trans s7, ?_, upd_same, ?_⟩
          · exact (c3.trans (s4.trans s6)).free hp
          · have e1 : ((ordF n k).take (j + 1)).flatMap (ordS n) = ((ordF n k).take j).flatMap (ordS n) ++ ordS n row := by
              rw [List.take_add_one, erow, List.flatMap_append]
              simp
            rw [e1]
            exact (hAz.mono fun _ _ => IsT.mono (s6.trans s7)).app ((hAc.mono fun _ _ => IsT.mono s7).mapL)
      · rintro σ H4 ⟨lp, v5, zs, rfl, s4, hlp, hz, hAz⟩
        rw [hyl, List.take_length] at hAz
        exact ⟨_, rfl, lp, _, _, _, zs, rfl, c3.trans s4, hlp, hz, hAz⟩
    · rintro σ H1 ⟨fp, v2, v3, v4, ys, rfl, s1, hfp, hy, hA⟩
      exact ⟨_, rfl, q fp H1 ys hfp s1 hy hA⟩
end
end AW

set_option maxRecDepth 100000
set_option maxHeartbeats 4000000
namespace AW
open PySem PySem.Spec PyProof.Rows L2
/-! _law_namings -/
abbrev cP2 (p : Nat × Nat) : Int × Int := ((p.1 : Int), (p.2 : Int))
def kP (H : Hp) : V → Int × Int
  | .ref t => match H t with
    | some (.tup [.int a, .int b]) => (a, b)
    | _ => (0, 0)
  | _ => (0, 0)
theorem kP_of {H : Hp} {p : Nat × Nat} {v : V} (h : IsP H p v) : kP H v = cP2 p := by
  obtain ⟨t, rfl, h⟩ := h
  simp only [kP]
  rw [h]
theorem kP_at {H : Hp} {ps : List (Nat × Nat)} {xs : List V} (h : A2 (IsP H) ps xs) : ∀ x ∈ xs, ∃ t, x = V.ref t ∧ H t = some (.tup [.int (kP H x).1, .int (kP H x).2]) := fun x hx => by
  obtain ⟨p, _, hp⟩ := h.mem2 hx
  rw [kP_of hp]
  exact hp
def SortedP (ps : List (Nat × Nat)) : Prop := ps.Pairwise fun p q => SrtO.lexB (cP2 q) (cP2 p) = false
theorem sorted_of {H : Hp} {ps : List (Nat × Nat)} {ys : List V} (h : A2 (IsP H) ps ys) (s : SrtO.Srtd (ltP (kP H)) ys) : SortedP ps := by
  induction h with
  | nil => exact .nil
  | @cons a b as bs h t ih =>
    have s1 := List.pairwise_cons.mp s
    refine List.pairwise_cons.mpr ⟨fun q hq => ?_, ih s1.2⟩
    obtain ⟨v, hv, hqv⟩ := t.mem1 hq
    have z := s1.1 v hv
    unfold ltP at z
    rw [kP_of h, kP_of hqv] at z
    exact z
theorem sorted_uniq {a b : List (Nat × Nat)} (h1 : SortedP a) (h2 : SortedP b) (p : a.Perm b) : a = b := by
  refine List.Perm.eq_of_pairwise (fun x y _ _ h1 h2 => ?_) h1 h2 p
  have z1 := SrtO.lexB_no.mp h1
  have z2 := SrtO.lexB_no.mp h2
  obtain ⟨x1, x2⟩ := x
  obtain ⟨y1, y2⟩ := y
  simp only [cP2] at z1 z2
  have e1 : x1 = y1 := by omega
  have e2 : x2 = y2 := by omega
  rw [e1, e2]
theorem map_nodup {n : Nat} {π : Nat → Nat} (hi : ∀ x y, x < n → y < n → π x = π y → x = y) : ((List.range n).map π).Nodup := by
  unfold List.Nodup
  rw [List.pairwise_map]
  exact (List.nodup_range (n := n)).imp_of_mem fun {a b} ha hb hne e => hne (hi a b (List.mem_range.mp ha) (List.mem_range.mp hb) e)
def spNamings : Sp := fun vs H Q _ => ∃ (t u n : Nat) (ps qs : List (Nat × Nat)) (π : Nat → Nat), vs = [.ref t, .ref u] ∧ WT H t n ps ∧ WT H u n qs ∧ AF.Good n ps ∧ n ≤ 6 ∧ ps.length ≤ 1000 ∧
  (∀ x, x < n → π x < n) ∧ (∀ x y, x < n → y < n → π x = π y → x = y) ∧ (ps.map fun p => (π p.1, π p.2)).Perm qs ∧ ∀ p H' nss, Same H H' → LL H' p nss → nss ≠ [] → Q (.ref p) H'
abbrev Nna : List Str := ["_law_w", "_law_v", "_law_found", "_law_rooms", "_law_begin", "_law_end"]
section
variable {P : Program} {w : World} {K : PySem.W.Frag} {mg : Str → Option Value} {base : Heap} {f C : Addr} {fd : FuncData}
theorem sc_na : FnScope Nna ["_law_w", "_law_v"] (defScope (top 43)) := ⟨rfl, rfl, rfl, by decide +kernel, rfl, by decide +kernel, by decide +kernel⟩
theorem ok_namings (B : Bn mg) (F : FnP K "_law_namings" "_law_namings" (top 43) f fd) (hm : mg "_law_namings" = some (.ref f)) (cO : C8.Cal P w K mg base 1 "_law_orders" spOrders []) : C8.Cal P w K mg base 2 "_law_namings" spNamings [] := by
  refine cal_mk F hm (fun _ _ _ _ _ _ us hl => match us, hl with | [_, _], _ => rfl) sc_na (fun vs H Q E h => ?_) (fun cdv A outer s H vs Q E hr h => ?_)
  · obtain ⟨t, u, n, ps, qs, π, rfl, _⟩ := h
    rfl
  · obtain ⟨t, u, n, ps, qs, π, rfl, hw, hu, G, hn, hl, p1, p2, hpm, q⟩ := h
    obtain ⟨tp, ht, vs, hv, ha⟩ := id hw
    obtain ⟨tq, hu1, ws, hws, hwa⟩ := id hu
    refine ⟨_, pss_cons (ps_if (PW.pt (pw_or (pt_cmpR op_ne (pe_ix ix_tup (pv 0) pe_int (fun _ _ => rfl)) (pe_ix ix_tup (pv 1) pe_int (fun _ _ => rfl)) (nomark _)) (pw_or1 (pt_cmpR op_ne (pe_callB call_len_seq (by rfl) B.len (by decide +kernel) (pa_cons (pe_ix ix_tup (pv 0) pe_int (fun _ _ => rfl)) pa_nil)) (pe_callB call_len_seq (by rfl) B.len (by decide +kernel) (pa_cons (pe_ix ix_tup (pv 1) pe_int (fun _ _ => rfl)) pa_nil)) (nomark _))))) (pss_one (ps_ret (pe_lst pa_nil))) pss_nil)
      (pss_cons (ps_set (i := 2) sc_na.nd rfl (Or.inl rfl) (pe_lst pa_nil))
      (pss_cons (ps_for PassesOwn.never rfl (pi_list (C8.pe_c cO hr (by decide) rfl (pa_cons (pe_ix ix_tup (pv 0) pe_int (fun _ _ => rfl)) pa_nil))) (pg_name (i := 3) sc_na.nd rfl (Or.inr rfl))
        (pss_one (ps_if (pt_cmpR (op_eqD hr.units) (pe_callB cr_sortedPO (by rfl) B.sorted (by decide +kernel) (pa_cons (pe_lc (own := [("_law_begin", 4), ("_law_end", 5)]) (g := gTup K 2 (gCons (gName 4) (gCons (gName 5) gNil))) (tt := tYes) (te := tTup (tCons (tOp (rIxT K) (tVar 3) (tVar 4)) (tCons (tOp (rIxT K) (tVar 3) (tVar 5)) tNil))) rfl sc_na.nd (pi_tup (pe_ix ix_tup (pv 0) pe_int (fun _ _ => rfl))) (blkOk_by (N := Nna) (sc := defScope (top 43)) (by decide +kernel))
              (fun _ _ _ _ _ => pg_tup rfl (pgs_cons (pg_name (i := 4) sc_na.nd rfl (Or.inl rfl)) (pgs_cons (pg_name (i := 5) sc_na.nd rfl (Or.inl rfl)) pgs_nil))) (fun _ _ _ _ _ => pts_nil)
              (fun _ _ _ _ _ => pe_tup (pa_cons (pe_ix ix_tup (pv 3) (pv 4) (fun _ _ => rfl)) (pa_cons (pe_ix ix_tup (pv 3) (pv 5) (fun _ _ => rfl)) pa_nil)))) pa_nil))
            (pe_callB cr_sortedTP (by rfl) B.sorted (by decide +kernel) (pa_cons (pe_ix ix_tup (pv 1) pe_int (fun _ _ => rfl)) pa_nil)) (nomark _))
          (pss_one (ps_expr (pe_bm PySem.F.plainAttrs_list PySem.F.slot_list_append PySem.F.type_list_append mt_append (pv 2) (pa_cons (pe_callTy call_list_of (by rfl) B.list (by decide +kernel) (pa_cons (pv 3) pa_nil)) pa_nil)))) pss_nil)))
      (pss_one (ps_ret (pv 2))))), ?_⟩
    have hvl : vs.length = ps.length := ha.len.symm
    have hwl : ws.length = qs.length := hwa.len.symm
    have hpq : ps.length = qs.length := by
      have z := hpm.length_eq
      rw [List.length_map] at z
      exact z
    -- if w[0] != v[0] or len(w[1]) != len(v[1])
    refine ⟨_, rfl, t, _, _, _, rfl, rfl, st_of ht, atI_nat (j := 0) rfl, _, rfl, u, _, _, _, rfl, rfl, st_of hu1, atI_nat (j := 0) rfl, rfl, _, rfl, ?_⟩
    rw [decide_eq_true rfl]
    refine iteF ?_
    refine ⟨_, rfl, t, _, _, _, rfl, rfl, st_of ht, atI_nat (j := 1) rfl, tp, vs, rfl, .inr (st_of hv), _, rfl, u, _, _, _, rfl, rfl, st_of hu1, atI_nat (j := 1) rfl, tq, ws, rfl, .inr (st_of hws), rfl, _, rfl, ?_⟩
    rw [decide_eq_true (show V.int (vs.length : Int) = V.int (ws.length : Int) by rw [hvl, hwl, hpq])]
    refine iteF ?_
    -- found = []
    refine ⟨Nat.zero_le _, fun fo hfo => ?_⟩
    have s0 : Same H (upd H fo (.lst [])) := same_new hfo
    have hf0 : (upd H fo (.lst [])) fo = some (.lst []) := upd_same
    generalize upd H fo (.lst []) = H0 at s0 hf0 ⊢
    -- orders
    refine ⟨_, rfl, t, _, _, _, rfl, rfl, st_of (s0 _ _ ht), atI_nat (j := 0) rfl, n, rfl, hn, fun op H1 rv hop s1 hrv hR => ?_⟩
    have hne : op ≠ fo := Ne.symm (ne_of_none hf0 hop)
    have c1 := s0.trans s1
    have hf1 := s1 _ _ hf0
    refine ⟨op, rfl, ⟨_, sq_of hrv⟩, for_it (walk_list (K := K) (a := op) (xs := rv)) (fun j σ H' => ∃ (v3 : Option V) (fs : List V) (nss : List (List Nat)), σ = [some (.ref t), some (.ref u), some (.ref fo), v3, none, none] ∧ Same (ers fo H1) H' ∧
        H' fo = some (.lst fs) ∧ A2 (fun ns v => ∃ l, v = .ref l ∧ l ≠ fo ∧ NL H' l ns) nss fs ∧ fs.length ≤ j ∧ (∀ i, i < j → (ordF n n)[i]? = some ((List.range n).map π) → nss ≠ []))
      ⟨none, [], [], rfl, ers_same, hf1, .nil, Nat.le_refl _, fun i h => absurd h (Nat.not_lt_zero _)⟩ (fun _ _ _ _ ⟨_, _, _, _, s', _⟩ => sq_of (s' _ _ (ers_at hrv hne))) ?_ ?_⟩
    · rintro j xx σ H2 H3 hj ⟨v3, fs, nss, rfl, s2, hf2, hA2, hfl, hI⟩ ⟨rfl, hxx⟩
      obtain ⟨row, erow, tr, rfl, htr⟩ := hR.get2 hxx
      have c2 : Same H H3 := fun c o e => s2 c o (same_ers c1 hfo c o e)
      have htr2 := s2 _ _ (ers_at htr (ne_of htr hf1 (by intro z; cases z)))
      have hrl : row.length = n := ord_len (List.mem_of_getElem? erow)
      have gr : ∀ x, x < n → (row.map nv)[x]? = some (nv (row.getD x 0)) := fun x hx => by
        rw [List.getElem?_map, List.getElem?_eq_getElem (by omega), List.getD_eq_getElem?_getD, List.getElem?_eq_getElem (by omega)]
        rfl
      -- the pairs renamed
      refine ⟨_, rfl, t, _, _, _, rfl, rfl, st_of (c2 _ _ ht), atI_nat (j := 1) rfl, tp, rfl, ⟨_, st_of (c2 _ _ hv)⟩, fun D hD => lc_gen (walk_tup (K := K) (a := tp) (xs := vs)) hD (fun _ => true) (fun i y H' => IsP H' (row.getD (ps.getD i (0, 0)).1 0, row.getD (ps.getD i (0, 0)).2 0) y) (fun _ _ _ _ => IsP.mono) (fun H' s' => st_of (s' _ _ (c2 _ _ hv))) (by omega) ?_ ?_⟩
      · rintro i xx H4 H5 ys hy hi s4 ⟨rfl, hx⟩ Kn Ky kn ky
        obtain ⟨tt, ett, htt⟩ := arrow_at (i := i) ha (by omega)
        cases Option.some.inj (hx.symm.trans ett)
        have c4 := c2.trans s4
        obtain ⟨g1, g2⟩ := G.2.1 _ (getD_mem (ps := ps) (a := i) (by omega))
        refine ⟨tt, _, rfl, st_of (c4 _ _ htt), rfl, _, _, rfl, _, _, rfl, rfl, rfl, ?_⟩
        unfold tYes
        refine iteT ⟨_, rfl, _, rfl, tr, _, _, _, rfl, rfl, st_of (s4 _ _ htr2), atI_nat (gr _ g1), _, rfl, _, rfl, tr, _, _, _, rfl, rfl, st_of (s4 _ _ htr2), atI_nat (gr _ g2), (show 2 ≤ sizeLine by decide), fun p hp => ky rfl _ _ (same_new hp) (IsP.ers (same_new hp _ _ hy) ⟨p, rfl, upd_same⟩)⟩
      · intro H4 ys s4 hy hA
        have eL : (List.range vs.length).filter (fun _ => true) = List.range ps.length := by
          rw [hvl]
          exact List.filter_eq_self.mpr fun _ _ => rfl
        rw [eL] at hA
        have hA4 : A2 (IsP H4) (ps.map fun p => (row.getD p.1 0, row.getD p.2 0)) ys := by
          have z := A2.mapL (R := IsP H4) (f := fun i => (row.getD (ps.getD i (0, 0)).1 0, row.getD (ps.getD i (0, 0)).2 0)) hA
          rw [map_getD ps (0, 0) fun p => (row.getD p.1 0, row.getD p.2 0)] at z
          exact z
        have c4 := c2.trans s4
        -- sorted(..)
        refine ⟨D, ys, kP H4, rfl, sq_of hy, kP_at hA4, fun zs1 q1 so1 sb1 hq1 => ?_⟩
        obtain ⟨as1, hp1, hz1⟩ := hA4.perm sb1.perm
        have hs1 := sorted_of hz1 so1
        have s5 : Same H4 (upd H4 q1 (.lst zs1)) := same_new hq1
        have pl1 : PL (upd H4 q1 (.lst zs1)) q1 as1 := ⟨zs1, upd_same, hz1.mono fun _ _ => IsP.mono s5⟩
        generalize upd H4 q1 (.lst zs1) = H5 at s5 pl1 ⊢
        have c5 := c4.trans s5
        have hwa5 : A2 (IsP H5) qs ws := hwa.mono fun _ _ => IsP.mono c5
        -- sorted(v[1])
        refine ⟨_, rfl, u, _, _, _, rfl, rfl, st_of (c5 _ _ hu1), atI_nat (j := 1) rfl, tq, ws, kP H5, rfl, st_of (c5 _ _ hws), kP_at hwa5, fun zs2 q2 so2 sb2 hq2 => ?_⟩
        obtain ⟨as2, hp2, hz2⟩ := hwa5.perm sb2.perm
        have hs2 := sorted_of hz2 so2
        have s6 : Same H5 (upd H5 q2 (.lst zs2)) := same_new hq2
        have pl2 : PL (upd H5 q2 (.lst zs2)) q2 as2 := ⟨zs2, upd_same, hz2.mono fun _ _ => IsP.mono s6⟩
        generalize upd H5 q2 (.lst zs2) = H6 at s6 pl2 ⊢
        have c36 : Same H3 H6 := (s4.trans s5).trans s6
        have hA6 : A2 (fun ns v => ∃ l, v = .ref l ∧ l ≠ fo ∧ NL H6 l ns) nss fs := hA2.mono fun ns v ⟨l, e1, e2, e3⟩ => ⟨l, e1, e2, e3.mono c36⟩
        have hf6 := c36 _ _ hf2
        have s26 : Same (ers fo H1) H6 := s2.trans c36
        refine ⟨_, _, dp_Ps (pl1.mono s6), dp_Ps pl2, sh_Ps _, sh_Ps _, _, rfl, ?_⟩
        rw [eqv_Ps]
        by_cases he : as1 = as2
        · rw [decide_eq_true he]
          refine iteT ?_
          have htr6 := c36 _ _ htr2
          refine ⟨_, rfl, .inl ⟨rfl, _, sq_of hf6⟩, _, rfl, tr, _, rfl, .inr (st_of htr6), fun l hl0 => ?_⟩
          have hlf : l ≠ fo := Ne.symm (ne_of_none hf6 hl0)
          refine ⟨fo, fs, _, rfl, rfl, same_new hl0 _ _ hf6, sz_lt ?_, ?_⟩
          · have h1 : fs.length ≤ j := hfl
            have h2 : j < rv.length := hj
            have h3 : rv.length ≤ 46656 := by
              rw [← hR.len]
              refine Nat.le_trans (ord_size n n) (Nat.le_trans (Nat.pow_le_pow_left hn n) ?_)
              exact Nat.le_trans (Nat.pow_le_pow_right (by decide) hn) (by decide)
            omega
          · refine ⟨_, fs ++ [.ref l], nss ++ [row], rfl, ?_, upd_same, ?_, ?_, ?_⟩
            · intro c o e
              have hcf : c ≠ fo := fun z => by
                rw [z] at e
                unfold ers at e
                rw [if_pos rfl] at e
                cases e
              rw [upd_ne hcf]
              exact same_new hl0 c o (s26 c o e)
            · refine A2.snoc (hA6.mono fun ns v ⟨l', e1, e2, e3⟩ => ⟨l', e1, e2, ?_⟩) ⟨l, rfl, hlf, ?_⟩
              · show upd _ fo _ l' = _
                rw [upd_ne e2]
                exact same_new hl0 _ _ e3
              · show upd _ fo _ l = _
                rw [upd_ne hlf]
                exact upd_same
            · rw [List.length_append, List.length_singleton]
              omega
            · intro i _ _ z
              have := congrArg List.length z
              rw [List.length_append] at this
              cases this
        · rw [decide_eq_false he]
          refine iteF ⟨_, fs, nss, rfl, s26, hf6, hA6, by omega, fun i hi ei => ?_⟩
          by_cases hij : i = j
          · exfalso
            apply he
            subst hij
            have er : row = (List.range n).map π := Option.some.inj (erow.symm.trans ei)
            have em : (ps.map fun p => (row.getD p.1 0, row.getD p.2 0)) = ps.map fun p => (π p.1, π p.2) := by
              apply List.map_congr_left
              intro p hp
              have gg : ∀ x, x < n → row.getD x 0 = π x := fun x hx => by
                rw [er, List.getD_eq_getElem?_getD, List.getElem?_map, List.getElem?_range hx]
                rfl
              obtain ⟨b1, b2⟩ := G.2.1 p hp
              rw [gg _ b1, gg _ b2]
            rw [em] at hp1
            exact sorted_uniq hs1 hs2 ((hp1.trans hpm).trans hp2.symm)
          · exact hI i (by omega) ei
    · rintro σ H2 ⟨v3, fs, nss, rfl, s2, hf2, hA2, hfl, hI⟩
      have hmem : (List.range n).map π ∈ ordF n n := ord_mem n _ (map_nodup p2) (fun x hx => by
        obtain ⟨y, hy, rfl⟩ := List.mem_map.mp hx
        exact p1 y (List.mem_range.mp hy)) (by rw [List.length_map, List.length_range])
      obtain ⟨i, hi⟩ := List.mem_iff_getElem?.mp hmem
      have hil : i < rv.length := by
        rw [← hR.len]
        exact (List.getElem?_eq_some_iff.mp hi).1
      exact ⟨_, rfl, q fo H2 nss (fun c o e => s2 c o (same_ers c1 hfo c o e)) ⟨fs, hf2, hA2.mono fun ns v ⟨l, e1, _, e3⟩ => ⟨l, e1, e3⟩⟩ (hI i hil hi)⟩
end
end AW

set_option maxRecDepth 100000
set_option maxHeartbeats 4000000
namespace AW
open PySem PySem.Spec PyProof.Rows L2
/-! _law_same, of ints and of lists of ints -/
def spSame0 : Sp := fun vs H Q _ => ∃ i : Int, vs = [.int i, .int i] ∧ ∀ H', Same H H' → Q (.bl true) H'
def spSameL : Sp := fun vs H Q _ => ∃ (a b : Addr) (xs : List Int), vs = [.ref a, .ref b] ∧ H a = some (.lst (xs.map V.int)) ∧ H b = some (.lst (xs.map V.int)) ∧ xs.length ≤ 1000 ∧ ∀ H', Same H H' → Q (.bl true) H'
abbrev Nsa : List Str := ["_law_found", "_law_due", "_law_a", "_law_b"]
section
variable {P : Program} {w : World} {K : PySem.W.Frag} {mg : Str → Option Value} {base : Heap} {f C : Addr} {fd : FuncData}
theorem sc_same : FnScope Nsa ["_law_found", "_law_due"] (defScope (top 31)) := ⟨rfl, rfl, rfl, by decide +kernel, rfl, by decide +kernel, by decide +kernel⟩
theorem ok_same0 (B : Bn mg) (F : FnP K "_law_same" "_law_same" (top 31) f fd) (hm : mg "_law_same" = some (.ref f)) : C8.Cal P w K mg base 1 "_law_same" spSame0 [] := by
  refine cal_mk F hm (fun _ _ _ _ _ _ us hl => match us, hl with | [_, _], _ => rfl) sc_same (fun vs H Q E h => ?_) (fun cdv A outer s H vs Q E hr h => ?_)
  · obtain ⟨i, rfl, _⟩ := h
    rfl
  · obtain ⟨i, rfl, q⟩ := h
    refine ⟨_, pss_cons (ps_if (pt_val (pe_callB call_isiT (by rfl) B.isi (by decide +kernel) (pa_cons (pv 1) (pa_cons (pe_tup (pa_cons (pe_bltn (v := .ty "list") (by rfl) B.list (by decide +kernel) rfl) (pa_cons (pe_bltn (v := .ty "tuple") (by rfl) B.tuple (by decide +kernel) rfl) pa_nil))) pa_nil)))) pss_never pss_nil)
      (pss_cons (ps_if (PW.pt (pw_or (pt_cmp (pc_isN (pv 1))) (pw_or1 (pt_cmp (pc_isN (pv 0)))))) pss_never pss_nil)
      (pss_cons (ps_if (PW.pt (pw_or (pt_cmpR op_ne (pe_callB call_isi (by rfl) B.isi (by decide +kernel) (pa_cons (pv 0) (pa_cons (pe_bltn (v := .ty "bool") (by rfl) B.bool (by decide +kernel) rfl) pa_nil))) (pe_callB call_isi (by rfl) B.isi (by decide +kernel) (pa_cons (pv 1) (pa_cons (pe_bltn (v := .ty "bool") (by rfl) B.bool (by decide +kernel) rfl) pa_nil))) (nomark _))
          (pw_or1 (pt_cmpR op_ne (pe_callB call_isi (by rfl) B.isi (by decide +kernel) (pa_cons (pv 0) (pa_cons (pe_bltn (v := .ty "int") (by rfl) B.int (by decide +kernel) rfl) pa_nil))) (pe_callB call_isi (by rfl) B.isi (by decide +kernel) (pa_cons (pv 1) (pa_cons (pe_bltn (v := .ty "int") (by rfl) B.int (by decide +kernel) rfl) pa_nil))) (nomark _))))) pss_never pss_nil)
      (pss_one (ps_ret (pe_and (pe_cmpR op_eq (pe_callB call_isi (by rfl) B.isi (by decide +kernel) (pa_cons (pv 0) (pa_cons (pe_bltn (v := .ty "str") (by rfl) B.str (by decide +kernel) rfl) pa_nil))) (pe_callB call_isi (by rfl) B.isi (by decide +kernel) (pa_cons (pv 1) (pa_cons (pe_bltn (v := .ty "str") (by rfl) B.str (by decide +kernel) rfl) pa_nil))) (nomark _))
          (pe_one (pe_cmpR op_eq (pv 0) (pv 1) (nomark _)))))))), ?_⟩
    refine ⟨_, rfl, (by show 2 ≤ sizeLine; decide), fun p hp => ?_⟩
    refine ⟨_, p, _, _, [.type "list", .type "tuple"], false, rfl, upd_same, .cons (.ty _) (.cons (.ty _) .nil), .base (.int _), ?_, false, rfl, iteF ?_⟩
    · exact kitAny_cons (b := false) (kit_ty (by decide +kernel)) (fun _ => kitAny_cons (b := false) (kit_ty (by decide +kernel)) (fun _ => kitAny_nil) fun z => by cases z) fun z => by cases z
    have e0 : decide (V.int i = V.non) = false := decide_eq_false (by intro z; cases z)
    refine ⟨_, rfl, _, rfl, ?_⟩
    rw [e0]
    refine iteF ⟨_, rfl, _, rfl, ?_⟩
    rw [e0]
    refine iteF ?_
    refine ⟨_, rfl, _, _, _, _, false, rfl, .ty _, .base (.int _), kit_ty (by decide +kernel), _, rfl, _, _, _, _, false, rfl, .ty _, .base (.int _), kit_ty (by decide +kernel), rfl, _, rfl, ?_⟩
    rw [decide_eq_true rfl]
    refine iteF ?_
    refine ⟨_, rfl, _, _, _, _, true, rfl, .ty _, .base (.int _), kit_ty (by decide +kernel), _, rfl, _, _, _, _, true, rfl, .ty _, .base (.int _), kit_ty (by decide +kernel), rfl, _, rfl, ?_⟩
    rw [decide_eq_true rfl]
    refine iteF ?_
    refine ⟨_, rfl, _, _, _, _, false, rfl, .ty _, .base (.int _), kit_ty (by decide +kernel), _, rfl, _, _, _, _, false, rfl, .ty _, .base (.int _), kit_ty (by decide +kernel), rfl, _, rfl, ?_⟩
    rw [decide_eq_true rfl]
    refine iteT ⟨_, rfl, _, rfl, rfl, ?_⟩
    rw [decide_eq_true rfl]
    exact q _ (same_new hp)
theorem ok_sameL (B : Bn mg) (F : FnP K "_law_same" "_law_same" (top 31) f fd) (hm : mg "_law_same" = some (.ref f)) (cS : C8.Cal P w K mg base 1 "_law_same" spSame0 []) : C8.Cal P w K mg base 2 "_law_same" spSameL [] := by
  refine cal_mk F hm (fun _ _ _ _ _ _ us hl => match us, hl with | [_, _], _ => rfl) sc_same (fun vs H Q E h => ?_) (fun cdv A outer s H vs Q E hr h => ?_)
  · obtain ⟨a, b, xs, rfl, _⟩ := h
    rfl
  · obtain ⟨a, b, xs, rfl, ha, hb, hl, q⟩ := h
    have hxl : (xs.map V.int).length = xs.length := List.length_map _
    refine ⟨_, pss_cons (ps_if (pt_val (pe_callB call_isiT (by rfl) B.isi (by decide +kernel) (pa_cons (pv 1) (pa_cons (pe_tup (pa_cons (pe_bltn (v := .ty "list") (by rfl) B.list (by decide +kernel) rfl) (pa_cons (pe_bltn (v := .ty "tuple") (by rfl) B.tuple (by decide +kernel) rfl) pa_nil))) pa_nil))))
        (pss_cons (ps_if (PW.pt (pw_or (pt_cmpR op_ne (pe_callB call_isi (by rfl) B.isi (by decide +kernel) (pa_cons (pv 0) (pa_cons (pe_bltn (v := .ty "list") (by rfl) B.list (by decide +kernel) rfl) pa_nil))) (pe_callB call_isi (by rfl) B.isi (by decide +kernel) (pa_cons (pv 1) (pa_cons (pe_bltn (v := .ty "list") (by rfl) B.list (by decide +kernel) rfl) pa_nil))) (nomark _))
          (pw_or1 (pt_cmpR op_ne (pe_callB call_isi (by rfl) B.isi (by decide +kernel) (pa_cons (pv 0) (pa_cons (pe_bltn (v := .ty "tuple") (by rfl) B.tuple (by decide +kernel) rfl) pa_nil))) (pe_callB call_isi (by rfl) B.isi (by decide +kernel) (pa_cons (pv 1) (pa_cons (pe_bltn (v := .ty "tuple") (by rfl) B.tuple (by decide +kernel) rfl) pa_nil))) (nomark _))))) pss_never pss_nil)
        (pss_one (ps_ret (pe_and (pe_cmpR op_eq (pe_callB call_len_seq (by rfl) B.len (by decide +kernel) (pa_cons (pv 0) pa_nil)) (pe_callB call_len_seq (by rfl) B.len (by decide +kernel) (pa_cons (pv 1) pa_nil)) (nomark _))
          (pe_one (pe_callB (cr_all rfl) (by rfl) B.all (by decide +kernel) (pa_cons (pe_lc (own := [("_law_a", 2), ("_law_b", 3)]) (g := gTup K 2 (gCons (gName 2) (gCons (gName 3) gNil))) (tt := tYes) rfl sc_same.nd (pi_zip (by rfl) B.zip (pa_cons (pv 0) (pa_cons (pv 1) pa_nil))) (blkOk_by (N := Nsa) (sc := defScope (top 31)) (by decide +kernel))
            (fun _ _ _ _ _ => pg_tup rfl (pgs_cons (pg_name (i := 2) sc_same.nd rfl (Or.inl rfl)) (pgs_cons (pg_name (i := 3) sc_same.nd rfl (Or.inl rfl)) pgs_nil))) (fun _ _ _ _ _ => pts_nil)
            (fun _ _ _ _ _ => C8.pe_c cS hr (by decide) rfl (pa_cons (pv 2) (pa_cons (pv 3) pa_nil)))) pa_nil))))))) pss_nil) pss_never, ?_⟩
    refine ⟨_, rfl, (by show 2 ≤ sizeLine; decide), fun p hp => ?_⟩
    have s1 : Same H (upd H p (.tup [.ty "list", .ty "tuple"])) := same_new hp
    refine ⟨_, p, _, _, [.type "list", .type "tuple"], true, rfl, upd_same, .cons (.ty _) (.cons (.ty _) .nil), .base (.lst (s1 _ _ hb)), ?_, true, rfl, iteT ?_⟩
    · exact kitAny_cons (b := true) (kit_ty (by decide +kernel)) (fun z => by cases z) fun _ => rfl
    generalize hH1 : upd H p _ = H1
    have s1 : Same H H1 := by rw [← hH1]; exact same_new hp
    clear hH1
    have ha1 := s1 _ _ ha
    have hb1 := s1 _ _ hb
    refine ⟨_, rfl, _, _, _, _, true, rfl, .ty _, .base (.lst ha1), kit_ty (by decide +kernel), _, rfl, _, _, _, _, true, rfl, .ty _, .base (.lst hb1), kit_ty (by decide +kernel), rfl, _, rfl, ?_⟩
    rw [decide_eq_true rfl]
    refine iteF ?_
    refine ⟨_, rfl, _, _, _, _, false, rfl, .ty _, .base (.lst ha1), kit_ty (by decide +kernel), _, rfl, _, _, _, _, false, rfl, .ty _, .base (.lst hb1), kit_ty (by decide +kernel), rfl, _, rfl, ?_⟩
    rw [decide_eq_true rfl]
    refine iteF ?_
    refine ⟨_, rfl, a, _, rfl, .inl (sq_of ha1), _, rfl, b, _, rfl, .inl (sq_of hb1), rfl, _, rfl, ?_⟩
    rw [decide_eq_true rfl]
    refine iteT ?_
    refine ⟨_, rfl, _, rfl, a, b, _, _, rfl, sq_of ha1, sq_of hb1, fun D hD => lc_gen (walk_zip (K := K) (a := a) (b := b) (xs := xs.map V.int) (ys := xs.map V.int) (n := xs.length) (by rw [hxl, Nat.min_self])) hD (fun _ => true) (fun _ y _ => y = .bl true) (fun _ _ _ _ _ h => h) (fun H' s' => ⟨sq_of (s' _ _ ha1), sq_of (s' _ _ hb1)⟩) (by omega) ?_ ?_⟩
    · rintro i xx H2 H3 ys hy hi s2 ⟨T, x1, x2, rfl, hT, rfl, e1, e2⟩ Kn Ky kn ky
      have ex : x1 = .int xs[i] := by
        have z : (xs.map V.int)[i]? = some x1 := e1
        rw [List.getElem?_map, List.getElem?_eq_getElem hi] at z
        exact (Option.some.inj z).symm
      have ex2 : x2 = .int xs[i] := by
        have z : (xs.map V.int)[i]? = some x2 := e2
        rw [List.getElem?_map, List.getElem?_eq_getElem hi] at z
        exact (Option.some.inj z).symm
      subst ex ex2
      refine ⟨T, _, rfl, st_of upd_same, rfl, _, _, rfl, _, _, rfl, rfl, rfl, ?_⟩
      unfold tYes
      exact iteT ⟨_, rfl, _, rfl, xs[i], rfl, fun H4 s4 => ky rfl _ _ ((same_new hT).trans s4) rfl⟩
    · intro H2 ys s2 hy hA
      have e := A2.eqmap (f := fun _ : Nat => V.bl true) hA
      have eL : (List.range xs.length).filter (fun _ => true) = List.range xs.length := List.filter_eq_self.mpr fun _ _ => rfl
      rw [eL] at e
      have e2 : ys = ((List.range xs.length).map fun _ => true).map V.bl := by
        rw [e, List.map_map]
        rfl
      refine ⟨D, _, rfl, sq_of (by rw [hy, e2]), ?_⟩
      have e3 : ((List.range xs.length).map fun _ => true).all id = true := by
        rw [List.all_eq_true]
        intro x hx
        obtain ⟨_, _, rfl⟩ := List.mem_map.mp hx
        rfl
      rw [e3]
      exact q _ (s1.trans s2)
end
end AW

set_option maxRecDepth 100000
set_option maxHeartbeats 4000000
namespace AW
open PySem PySem.Spec PyProof.Rows L2
/-! _law_bag -/
theorem sql_same {K : PySem.W.Frag} {H H' : Hp} {a : Addr} {xs : List V} (h : SqL K H a xs) (e : Same H H') : SqL K H' a xs :=
  h.elim (fun h => .inl (h.elim (fun h => .inl (e _ _ h)) fun ⟨o, h⟩ => .inr ⟨o, e _ _ h⟩)) fun h => .inr h
def spBag (K : PySem.W.Frag) : Sp := fun vs H Q _ => ∃ (a : Addr) (ns : List Int), vs = [.ref a] ∧ SqL K H a (ns.map V.int) ∧ ∀ b s H', H b = none → Same H H' → BagAt H' b s → Q (.ref b) H'
abbrev Nba : List Str := ["_law_script", "_law_seed", "_law_cell"]
section
variable {P : Program} {w : World} {K : PySem.W.Frag} {mg : Str → Option Value} {base : Heap} {f C : Addr} {fd : FuncData}
theorem sc_bag : FnScope Nba ["_law_script"] (defScope (top 28)) := ⟨rfl, rfl, rfl, by decide +kernel, rfl, by decide +kernel, by decide +kernel⟩
theorem ok_bag (B : Bn mg) (F : FnP K "_law_bag" "_law_bag" (top 28) f fd) (hm : mg "_law_bag" = some (.ref f)) : C8.Cal P w K mg base 1 "_law_bag" (spBag K) [] := by
  refine cal_mk F hm (fun _ _ _ _ _ _ us hl => match us, hl with | [_], _ => rfl) sc_bag (fun vs H Q E h => ?_) (fun cdv A outer s H vs Q E hr h => ?_)
  · obtain ⟨a, ns, rfl, _⟩ := h
    rfl
  · obtain ⟨a, ns, rfl, ha, q⟩ := h
    refine ⟨_, pss_cons (ps_set (i := 1) sc_bag.nd rfl (Or.inl rfl) pe_int)
      (pss_cons (ps_for PassesOwn.never rfl (pi_list (pe_slice sl_list (pv 0) po_none (po_some pe_int))) (pg_name (i := 2) sc_bag.nd rfl (Or.inl rfl))
        (pss_one (ps_set (i := 1) sc_bag.nd rfl (Or.inl rfl) (pe_op op_mod (pe_op op_add (pe_op op_add (pe_op op_mul (pv 1) pe_int) (pv 2)) pe_int) pe_int))))
      (pss_one (ps_ret (pe_lst (pa_cons (pe_callTy call_list_of (by rfl) B.list (by decide +kernel) (pa_cons (pe_slice sl_list (pv 0) po_none (po_some pe_int)) pa_nil)) (pa_cons pe_int (pa_cons pe_int (pa_cons (pv 1) (pa_cons pe_int pa_nil))))))))), ?_⟩
    have ec : cutV (ns.map V.int) none (some ((63 : Nat) : Int)) = (ns.take 63).map V.int := by rw [cut_to, ← List.map_take]
    refine ⟨_, rfl, _, rfl, a, _, rfl, ha, fun p hp => ?_⟩
    generalize hH1 : upd H p _ = H1
    have s1 : Same H H1 := by rw [← hH1]; exact same_new hp
    have h1 : H1 p = some (.lst ((ns.take 63).map V.int)) := by
      rw [← hH1, ← ec]
      exact upd_same
    clear hH1
    refine ⟨p, rfl, ⟨_, sq_of h1⟩, for_it (walk_list (K := K) (a := p) (xs := (ns.take 63).map V.int)) (fun j σ H' => ∃ (i : Int) (v2 : Option V), σ = [some (.ref a), some (.int i), v2] ∧ Same H1 H') ⟨_, none, rfl, Same.refl _⟩ (fun _ _ _ _ ⟨_, _, _, s'⟩ => sq_of (s' _ _ h1)) ?_ ?_⟩
    · rintro j xx σ H2 H3 hj ⟨i, v2, rfl, s2⟩ ⟨rfl, hx⟩
      rw [List.getElem?_map] at hx
      obtain ⟨c, _, rfl⟩ := Option.map_eq_some_iff.mp hx
      exact ⟨_, rfl, _, _, rfl, rfl, Or.inr ⟨by decide, by decide⟩, _, rfl, _, _, rfl, rfl, _, _, rfl, rfl, _, _, rfl, rfl, (by show (0 : Int) < _; decide), _, _, rfl, s2⟩
    · rintro σ H2 ⟨i, v2, rfl, s2⟩
      have c2 := s1.trans s2
      refine ⟨_, rfl, _, rfl, a, _, rfl, sql_same ha c2, fun p2 hp2 => ?_⟩
      generalize hH3 : upd H2 p2 _ = H3
      have s3 : Same H2 H3 := by rw [← hH3]; exact same_new hp2
      have h3 : H3 p2 = some (.lst ((ns.take 63).map V.int)) := by
        rw [← hH3, ← ec]
        exact upd_same
      clear hH3
      refine ⟨p2, _, rfl, .inl (sq_of h3), fun s hs => ?_⟩
      have s4 : Same H3 (upd H3 s (.lst ((ns.take 63).map V.int))) := same_new hs
      have h4 : (upd H3 s (.lst ((ns.take 63).map V.int))) s = some (.lst ((ns.take 63).map V.int)) := upd_same
      generalize upd H3 s (.lst ((ns.take 63).map V.int)) = H4 at s4 h4 ⊢
      have c4 := (c2.trans s3).trans s4
      refine ⟨_, rfl, (show 5 ≤ sizeLine by decide), fun b hb => ?_⟩
      exact q b s _ (c4.free hb) (c4.trans (same_new hb)) ⟨ns.take 63, 0, 0, i, 0, upd_same, Int.le_refl _, same_new hb _ _ h4⟩
end
end AW

set_option maxRecDepth 100000
set_option maxHeartbeats 4000000
namespace AW
open PySem PySem.Spec PyProof.Rows L2
/-! law -/
def spLaw (K : PySem.W.Frag) : Sp := fun vs H Q _ => ∃ (a : Addr) (ns : List Int), vs = [.ref a] ∧ SqL K H a (ns.map V.int) ∧ ns.length ≤ 63 ∧ ∀ H', Q (.bl true) H'
abbrev Nla : List Str := ["_law_script", "_law_bag_here", "_law_turn", "_law_w", "_law_here", "_law_pairs", "_law_one", "_law_other", "_law_last", "_law_folds", "_law_length"]
section
variable {P : Program} {w : World} {K : PySem.W.Frag} {mg : Str → Option Value} {base : Heap} {f C : Addr} {fd : FuncData}
theorem sc_law : FnScope Nla ["_law_script"] (defScope (top 44)) := ⟨rfl, rfl, rfl, by decide +kernel, rfl, by decide +kernel, by decide +kernel⟩
theorem ok_law (B : Bn mg) (F : FnP K "law" "law" (top 44) f fd) (cBag : C8.Cal P w K mg base 1 "_law_bag" (spBag K) []) (cWeb : C8.Cal P w K mg base 3 "_law_web" spWeb []) (cSpl : C8.Cal P w K mg base 4 "_law_splits" spSplits [])
    (cMade : C8.Cal P w K mg base 5 "_law_made" (spMade C) []) (cFo : C8.Cal P w K mg base 5 "folds_of" (spFolds C) []) (cOf : C8.Cal P w K mg base 2 "_law_of" spOf []) (cFold : C8.Cal P w K mg base 7 "fold" (spFold C) []) (cTot : C8.Cal P w K mg base 8 "total" (spTotal C) [])
    (cR : C8.Met P w K mg base 1 C "rooms" (spRooms C) []) (cL : C8.Met P w K mg base 1 C "__len__" (spLen C) []) (cRd : C8.Met P w K mg base 2 C "rounds" (spRounds C) []) (cNa : C8.Cal P w K mg base 2 "_law_namings" spNamings []) (cTe : C8.Cal P w K mg base 2 "_law_tells" (spTells C) [])
    (cSa : C8.Cal P w K mg base 2 "_law_same" spSameL []) (cLr : C8.Cal P w K mg base 2 "_law_rounds" spLRounds []) : FnOk P w K mg base CX0 30 f fd ["_law_script"] (spLaw K) := by
  refine F.ok sc_law (fun vs H Q E h => ?_) (fun cdv A outer s0 H vs Q E hr h => ?_)
  · obtain ⟨a, ns, rfl, _⟩ := h
    rfl
  · obtain ⟨a, ns, rfl, ha, hl, q⟩ := h
    suffices hh : ∃ t, PSs (cxOf CX0 P w K mg base Nla "law" (defScope (top 44)) f cdv A outer s0 H E).nox (defBody (top 44)) t ∧ t { nx := fun _ H' => Q .non H', rt := Q } (start Nla [.ref a]) H from let ⟨t, h1, h2⟩ := hh; ⟨t, PSs.nox h1, h2⟩
    refine ⟨_, pss_cons (ps_set (i := 1) sc_law.nd rfl (Or.inl rfl) (C8.pe_c cBag hr (by decide) rfl (pa_cons (pv 0) pa_nil)))
      (pss_cons (ps_for PassesOwn.never rfl (pi_range1 rfl B.range (pa_cons pe_int pa_nil)) (pg_name (i := 2) sc_law.nd rfl (Or.inl rfl))
        (pss_cons (ps_set (i := 3) sc_law.nd rfl (Or.inl rfl) (C8.pe_c cWeb hr (by decide) rfl (pa_cons (pv 1) (pa_cons pe_int (pa_cons pe_int pa_nil)))))
        (pss_cons (ps_set (i := 3) sc_law.nd rfl (Or.inl rfl) (C8.pe_c cSpl hr (by decide) rfl (pa_cons (pv 1) (pa_cons (pv 3) (pa_cons pe_int (pa_cons pe_int (pa_cons pe_int pa_nil)))))))
        (pss_cons (ps_set (i := 4) sc_law.nd rfl (Or.inl rfl) (C8.pe_c cMade hr (by decide) rfl (pa_cons (pv 3) pa_nil)))
        (pss_cons (ps_set (i := 5) sc_law.nd rfl (Or.inl rfl) (C8.pe_c cFo hr (by decide) rfl (pa_cons (pv 4) pa_nil)))
        (pss_cons (ps_while PassesOwn.never (pt_cmpR (op_neD hr.units) (pv 5) (pe_lst pa_nil) (nomark _))
          (pss_cons (ps_asg (C8.pe_c cOf hr (by decide) rfl (pa_cons (pv 1) (pa_cons (pv 5) pa_nil))) (pg_tup rfl (pgs_cons (pg_name (i := 6) sc_law.nd rfl (Or.inl rfl)) (pgs_cons (pg_name (i := 7) sc_law.nd rfl (Or.inl rfl)) pgs_nil))))
          (pss_cons (ps_set (i := 4) sc_law.nd rfl (Or.inl rfl) (C8.pe_c cFold hr (by decide) rfl (pa_cons (pv 4) (pa_cons (pv 6) (pa_cons (pv 7) pa_nil)))))
          (pss_one (ps_set (i := 5) sc_law.nd rfl (Or.inl rfl) (C8.pe_c cFo hr (by decide) rfl (pa_cons (pv 4) pa_nil)))))))
        (pss_cons (ps_asg (C8.pe_c cTot hr (by decide) rfl (pa_cons (C8.pe_c cMade hr (by decide) rfl (pa_cons (pv 3) pa_nil)) pa_nil)) (pg_tup rfl (pgs_cons (pg_name (i := 8) sc_law.nd rfl (Or.inl rfl)) (pgs_cons (pg_name (i := 9) sc_law.nd rfl (Or.inl rfl)) pgs_nil))))
        (pss_cons (ps_if (PW.pt (pw_or (pt_cmpR (op_neD hr.units) (pe_tup (pa_cons (C8.pe_mt0 cR hr (by decide) (pv 4)) (pa_cons (pe_callB (call_lenM cL hr (by decide)) (by rfl) B.len (by decide +kernel) (pa_cons (pv 4) pa_nil)) pa_nil)))
              (pe_tup (pa_cons (C8.pe_mt0 cR hr (by decide) (pv 8)) (pa_cons (pe_callB (call_lenM cL hr (by decide)) (by rfl) B.len (by decide +kernel) (pa_cons (pv 8) pa_nil)) pa_nil))) (nomark _))
            (pw_or1 (pt_cmpR op_ne (pe_callB call_len_seq (by rfl) B.len (by decide +kernel) (pa_cons (pv 9) pa_nil)) (pe_op op_sub (pe_ix ix_tup (pv 3) pe_int (fun _ _ => rfl)) (C8.pe_mt0 cR hr (by decide) (pv 8))) (nomark _))))) pss_never pss_nil)
        (pss_cons (ps_if (pt_cmpR (op_eqD hr.units) (C8.pe_c cNa hr (by decide) rfl (pa_cons (C8.pe_c cTe hr (by decide) rfl (pa_cons (pv 4) pa_nil)) (pa_cons (C8.pe_c cTe hr (by decide) rfl (pa_cons (pv 8) pa_nil)) pa_nil))) (pe_lst pa_nil) (nomark _)) pss_never pss_nil)
        (pss_one (ps_for PassesOwn.never rfl (pi_range2 rfl B.range (pa_cons pe_int (pa_cons pe_int pa_nil))) (pg_name (i := 10) sc_law.nd rfl (Or.inl rfl))
          (pss_one (ps_if (pt_not (pt_val (C8.pe_c cSa hr (by decide) rfl (pa_cons (pe_lst (pa_cons (C8.pe_mt cRd hr (by decide) (pv 4) (pa_cons (pv 10) pa_nil)) (pa_cons (C8.pe_mt cRd hr (by decide) (pv 8) (pa_cons (pv 10) pa_nil)) pa_nil)))
              (pa_cons (pe_op op_rep (pe_lst (pa_cons (C8.pe_c cLr hr (by decide) rfl (pa_cons (pv 3) (pa_cons (pv 10) pa_nil))) pa_nil)) pe_int) pa_nil))))) pss_never pss_nil)))))))))))))
      (pss_one (ps_ret pe_bl))), ?_⟩
    -- the bag
    refine ⟨_, rfl, a, ns, rfl, ha, fun b s H1 hb0 s1 b1 => ?_⟩
    refine ⟨(3 : Int), rfl, by decide, by decide, for_it (walk_rangeN (n := 3)) (fun _ σ H' => ∃ v2 v3 v4 v5 v6 v7 v8 v9 v10 : Option V, σ = [some (.ref a), some (.ref b), v2, v3, v4, v5, v6, v7, v8, v9, v10] ∧ BagAt H' b s) ⟨none, none, none, none, none, none, none, none, none, rfl, b1⟩ (fun _ _ _ _ _ => trivial) ?_ ?_⟩
    · rintro i xx σ H2 H2' hi ⟨v2, v3, v4, v5, v6, v7, v8, v9, v10, rfl, b2⟩ ⟨rfl, rfl⟩
      refine ⟨_, rfl, b, s, 2, 3, rfl, b2, by decide, by decide, by decide, fun t0 n0 ps0 H3 k3 b3 w3 G0 hn0 hl0 => ?_⟩
      refine ⟨_, rfl, _, rfl, b, s, t0, n0, 4, 6, 14, ps0, rfl, b3, w3, G0, by omega, by omega, by decide, by decide, by decide, fun t n ps H4 k4 b4 w4 G hn hl => ?_⟩
      refine ⟨_, rfl, t, n, ps, rfl, w4, G, by omega, by omega, fun y0 H5 hy0 s5 wa5 => ?_⟩
      refine ⟨_, rfl, y0, n, ps, rfl, wa5, fun ks0 p0 H6 hp0 s6 hk0 hq10 hq20 hkl0 => ?_⟩
      have b5 := b4.mono s5
      have b6 := b5.mono s6
      obtain ⟨bs6, hbs6⟩ := b6.lst
      -- while
      refine ⟨fun m σ H' => ∃ (y p : Addr) (qs ks : List (Nat × Nat)) (v6 v7 : Option V), σ = [some (.ref a), some (.ref b), some (nv i), some (.ref t), some (.ref y), some (.ref p), v6, v7, v8, v9, v10] ∧ Keep b H6 H' ∧ BagAt H' b s ∧ WebAt C (ers b H') y m qs ∧ AF.Chain n ps m qs ∧
          PL (ers b H') p ks ∧ (∀ q ∈ ks, AF.CanFold m qs q.1 q.2) ∧ (ks = [] → AF.NoFold m qs) ∧ ks.length ≤ 100000,
        ⟨n, y0, p0, ps, ks0, v6, v7, rfl, Same.refl _, b6, (wa5.mono s6).odd b6.odd, .nil, hk0.offL hbs6 (b5.new hp0).1, hq10, hq20, hkl0⟩, ?_⟩
      rintro m σ H7 ⟨y, p, qs, ks, v6', v7', rfl, k7, b7, w7, ch, pl7, hq1, hq2, hkl⟩
      refine ⟨_, rfl, Nat.zero_le _, fun e he => ⟨_, _, dp_Ps ((pl7.mono ers_same).mono (same_new he)), dp_nil upd_same, sh_Ps _, sh_nil, _, rfl, ?_⟩⟩
      have s8 : Same H7 (upd H7 e (.lst [])) := same_new he
      generalize upd H7 e (.lst []) = H8 at s8 ⊢
      have en : PyData.eqv (dPs ks) (.list []) = ks.isEmpty := by
        unfold dPs
        rw [eqv_nil, List.isEmpty_map]
      rw [en]
      have b8 := b7.mono s8
      have w8 : WebAt C (ers b H8) y m qs := w7.mono (ers_mono s8)
      have pl8 : PL (ers b H8) p ks := pl7.mono (ers_mono s8)
      cases ks with
      | cons q0 kr =>
        refine iteT ⟨fun σ' H' => ∃ m', m' < m ∧ _, fun _ _ h => h, ?_⟩
        obtain ⟨vs, hv, hva⟩ := pl8
        have hvl : vs.length = kr.length + 1 := hva.len.symm
        refine ⟨_, rfl, _, rfl, b, s, p, vs, rfl, b8, hv, by omega, by rw [hvl]; exact hkl, fun k v H9 hk k9 b9 => ?_⟩
        obtain ⟨q', hq', hqv⟩ := hva.get2 hk
        have cf := hq1 q' (List.mem_of_getElem? hq')
        have hab : q'.1 < q'.2 := cf.1
        have hbm : q'.2 < m := cf.2.1
        obtain ⟨tt, rfl, htt⟩ := hqv
        refine ⟨tt, _, rfl, st_of (keep_at k9 htt), rfl, _, _, rfl, _, _, rfl, rfl, ?_⟩
        have w9 : WebAt C (ers b H9) y m qs := w8.mono k9
        refine ⟨_, rfl, _, rfl, _, rfl, y, m, q'.1, q'.2, qs, rfl, w9.mono ers_same, cf, fun y' H10 hy' s10 w10 => ?_⟩
        refine ⟨_, rfl, y', m - 1, AF.foldW qs q'.1 q'.2, rfl, w10, fun ks' p' H11 hp' s11 hk' hq1' hq2' hkl' => ?_⟩
        have b10 := b9.mono s10
        have b11 := b10.mono s11
        obtain ⟨bs11, hbs11⟩ := b11.lst
        exact ⟨m - 1, by omega, y', p', _, ks', _, _, rfl, (k7.trans (Keep.of s8)).trans (k9.trans (Keep.of (s10.trans s11))), b11, (w10.mono s11).odd b11.odd, ch.snoc cf, hk'.offL hbs11 (b10.new hp').1, hq1', hq2', hkl'⟩
      | nil =>
        refine iteF ?_
        have nf := hq2 rfl
        have wT8 : WT H8 t n ps := w4.tk ((((TK.of s5).trans (TK.of s6)).trans (TK.keep b6 k7)).trans (TK.of s8))
        -- last, folds = total(_law_made(w))
        refine ⟨_, rfl, t, n, ps, rfl, wT8, G, by omega, by omega, fun z H9 hz s9 wz => ?_⟩
        refine ⟨z, n, ps, rfl, wz, fun tt y2 fl m2 us qs2 H10 s10 ht10 w10 ch2 nf2 hfl hlen => ?_⟩
        refine ⟨tt, _, rfl, st_of ht10, rfl, _, _, rfl, _, _, rfl, rfl, ?_⟩
        have s810 := s9.trans s10
        have wh : WebAt C H10 y m qs := (w8.mono ers_same).mono s810
        have wT10 : WT H10 t n ps := wT8.tk (TK.of s810)
        have b10 := b8.mono s810
        have Gm := ch.good G
        obtain ⟨e1, π, p1, p2, hpm⟩ := AF.same_but_names G ch ch2 nf nf2
        subst e1
        have hql : qs.length = qs2.length := by
          have z := hpm.length_eq
          rw [List.length_map] at z
          exact z
        have hm6 : m ≤ 6 := by omega
        have hq400 := wh.hl
        have hq400' := w10.hl
        obtain ⟨dx, f1, f2, f3, hx, _⟩ := wh.ex
        obtain ⟨dx2, g1, g2, g3, hx2, _⟩ := w10.ex
        obtain ⟨tpw, htw, _⟩ := id wT10
        have no := fun (N : Nat) (a1 a2 a3 : Addr) (m : Str) (e1 : (m == ("size" : Str)) = false) (e2 : (m == ("pairs" : Str)) = false) (e3 : (m == ("leaving" : Str)) = false) (e4 : (m == ("coming" : Str)) = false) => flds_no N a1 a2 a3 e1 e2 e3 e4
        -- (here.rooms(), len(here)) != (last.rooms(), len(last))
        refine ⟨_, rfl, y, dx, _, rfl, hx, no _ _ _ _ _ (by decide +kernel) (by decide +kernel) (by decide +kernel) (by decide +kernel), y, m, qs, rfl, wh, _, rfl, y, dx, _, rfl, hx, y, m, qs, rfl, wh, (qs.length : Int), rfl, by omega, by omega, (show 2 ≤ sizeLine by decide), fun tA hA => ?_⟩
        generalize hH11 : upd H10 tA _ = H11
        have s11 : Same H10 H11 := by rw [← hH11]; exact same_new hA
        have hA11 : IsP H11 (m, qs.length) (.ref tA) := ⟨tA, rfl, by rw [← hH11]; exact upd_same⟩
        clear hH11
        refine ⟨_, rfl, y2, dx2, _, rfl, s11 _ _ hx2, no _ _ _ _ _ (by decide +kernel) (by decide +kernel) (by decide +kernel) (by decide +kernel), y2, m, qs2, rfl, w10.mono s11, _, rfl, y2, dx2, _, rfl, s11 _ _ hx2, y2, m, qs2, rfl, w10.mono s11, (qs2.length : Int), rfl, by omega, by omega, (show 2 ≤ sizeLine by decide), fun tB hB => ?_⟩
        generalize hH12 : upd H11 tB _ = H12
        have s12 : Same H11 H12 := by rw [← hH12]; exact same_new hB
        have hB12 : IsP H12 (m, qs2.length) (.ref tB) := ⟨tB, rfl, by rw [← hH12]; exact upd_same⟩
        clear hH12
        refine ⟨_, _, dp_P (hA11.mono s12), dp_P hB12, sh_P _, sh_P _, _, rfl, ?_⟩
        rw [eqv_P, decide_eq_true (by rw [hql])]
        refine iteF ?_
        have s1012 := s11.trans s12
        -- len(folds) != w[0] - last.rooms()
        refine ⟨_, rfl, fl, us, rfl, .inl (sq_of (s1012 _ _ hfl)), _, rfl, t, _, _, _, rfl, rfl, st_of (s1012 _ _ htw), atI_nat (j := 0) rfl, _, rfl, y2, dx2, _, rfl, s1012 _ _ hx2, no _ _ _ _ _ (by decide +kernel) (by decide +kernel) (by decide +kernel) (by decide +kernel), y2, m, qs2, rfl, w10.mono s1012, _, _, rfl, rfl, rfl, _, rfl, ?_⟩
        rw [decide_eq_true (show V.int (us.length : Int) = V.int ((n : Int) - (m : Int)) by congr 1; omega)]
        refine iteF ?_
        -- namings
        refine ⟨_, rfl, y, m, qs, rfl, wh.mono s1012, fun tC H13 s13 wtC => ?_⟩
        refine ⟨_, rfl, y2, m, qs2, rfl, (w10.mono s1012).mono s13, fun tD H14 s14 wtD => ?_⟩
        refine ⟨tC, tD, m, qs, qs2, π, rfl, wtC.tk (TK.of s14), wtD, Gm, hm6, by omega, p1, p2, hpm, fun np H15 nss s15 hLL hne => ?_⟩
        refine ⟨Nat.zero_le _, fun e2 he2 => ⟨_, _, dp_L (hLL.mono (same_new he2)), dp_nil upd_same, sh_L _, sh_nil, _, rfl, ?_⟩⟩
        have s16 : Same H15 (upd H15 e2 (.lst [])) := same_new he2
        generalize upd H15 e2 (.lst []) = H16 at s16 ⊢
        have en2 : PyData.eqv (dL nss) (.list []) = false := by
          unfold dL
          rw [eqv_nil, List.isEmpty_map]
          cases nss with
          | nil => exact absurd rfl hne
          | cons _ _ => rfl
        rw [en2]
        refine iteF ?_
        have s17 : Same H10 H16 := (((s1012.trans s13).trans s14).trans s15).trans s16
        -- for length in range(1, 6)
        refine ⟨1, 6, rfl, ⟨by decide, by decide, by decide, by decide⟩, for_it (walk_range (lo := 1) (n := 5)) (fun _ σ H' => ∃ v10 : Option V, σ = [some (.ref a), some (.ref b), some (nv i), some (.ref t), some (.ref y), some (.ref p), v6', v7', some (.ref y2), some (.ref fl), v10] ∧ Same H10 H') ⟨v10, rfl, s17⟩ (fun _ _ _ _ _ => trivial) ?_ ?_⟩
        · rintro j xx σ H17 H18 hj ⟨v10', rfl, s18⟩ ⟨rfl, hxx⟩
          have hxj : xx = nv (j + 1) := by
            rw [hxx]
            show V.int (1 + (j : Int)) = V.int ((j + 1 : Nat) : Int)
            congr 1
            omega
          subst hxj
          clear hxx
          have r1 : AF.roundsM m qs (j + 1) = AF.roundsM n ps (j + 1) := AF.Chain.rounds G j ch
          have r2 : AF.roundsM m qs2 (j + 1) = AF.roundsM n ps (j + 1) := AF.Chain.rounds G j ch2
          refine ⟨_, rfl, y, dx, _, rfl, s18 _ _ hx, no _ _ _ _ _ (by decide +kernel) (by decide +kernel) (by decide +kernel) (by decide +kernel), _, rfl, y, m, j + 1, qs, rfl, wh.mono s18, by omega, by omega, fun H19 s19 => ?_⟩
          have c19 := s18.trans s19
          refine ⟨_, rfl, y2, dx2, _, rfl, c19 _ _ hx2, no _ _ _ _ _ (by decide +kernel) (by decide +kernel) (by decide +kernel) (by decide +kernel), _, rfl, y2, m, j + 1, qs2, rfl, w10.mono c19, by omega, by omega, fun H20 s20 => ⟨(show 2 ≤ sizeLine by decide), fun l1 hl1 => ?_⟩⟩
          have c20 := c19.trans s20
          rw [r1, r2]
          generalize hH21 : upd H20 l1 _ = H21
          have s21 : Same H20 H21 := by rw [← hH21]; exact same_new hl1
          have h21 : H21 l1 = some (.lst ([AF.roundsM n ps (j + 1), AF.roundsM n ps (j + 1)].map V.int)) := by rw [← hH21]; exact upd_same
          clear hH21
          have c21 := c20.trans s21
          refine ⟨_, rfl, _, rfl, t, n, j + 1, ps, rfl, wT10.tk (TK.of c21), G, by omega, by omega, by omega, fun H22 s22 => ⟨(show 1 ≤ sizeLine by decide), fun l0 hl0 => ?_⟩⟩
          refine ⟨l0, 2, _, rfl, rfl, upd_same, by decide, by decide, (show 1 * 2 ≤ sizeLine by decide), fun l2 hl2 => ?_⟩
          have s23 := same_new (o := .lst [V.int (AF.roundsM n ps (j + 1))]) hl0
          generalize hH24 : upd _ l2 _ = H24
          have s24 : Same H22 H24 := by rw [← hH24]; exact s23.trans (same_new hl2)
          have h24 : H24 l2 = some (.lst ([AF.roundsM n ps (j + 1), AF.roundsM n ps (j + 1)].map V.int)) := by rw [← hH24]; exact upd_same
          clear hH24
          have c24 := (c21.trans s22).trans s24
          exact ⟨l1, l2, _, rfl, (s22.trans s24) _ _ h21, h24, (show 2 ≤ 1000 by decide), fun H25 s25 => ⟨true, rfl, iteF ⟨_, rfl, c24.trans s25⟩⟩⟩
        · rintro σ H17 ⟨v10', rfl, s18⟩
          exact ⟨_, _, _, _, _, _, _, _, _, rfl, b10.mono s18⟩
    · rintro σ H2 _
      exact q _
end
end AW

set_option maxRecDepth 100000
set_option maxHeartbeats 0
namespace AF
open PySem PySem.Spec PyProof.Rows L2
open AW (top met)
def dG (x : Str) (i : Nat) : He.DefD := ⟨(x, none), x, x, defArgs (top i), defBody (top i), defScope (top i), [], []⟩
def dM (m q : Str) (i : Nat) : He.DefD := ⟨("Web", some m), m, q, defArgs (met i), defBody (met i), defScope (met i), [], []⟩
def fnG : List He.DefD := [dG "is_within" 15, dG "is_pair" 17, dG "is_listed" 16, dG "column" 20, dG "folds_of" 21, dG "need_fold" 22, dG "partners" 23, dG "fold_parts" 24, dG "fold" 25, dG "total" 26,
  dG "_law_bag" 28, dG "_law_pull" 29, dG "_law_of" 30, dG "_law_same" 31, dG "_law_mixed" 32, dG "_law_web" 33, dG "_law_made" 34, dG "_law_tells" 35, dG "_law_outs" 36, dG "_law_ins" 37, dG "_law_split" 38,
  dG "_law_part" 39, dG "_law_splits" 40, dG "_law_rounds" 41, dG "_law_orders" 42, dG "_law_namings" 43, dG "law" 44]
def fnM : List He.DefD := [dM "__init__" "Web.__init__" 0, dM "__len__" "Web.__len__" 2, dM "rooms" "Web.rooms" 4, dM "arrows" "Web.arrows" 5, dM "has_arrow" "Web.has_arrow" 6, dM "need_room" "Web.need_room" 7,
  dM "begin" "Web.begin" 8, dM "end" "Web.end" 9, dM "outs" "Web.outs" 10, dM "ins" "Web.ins" 11, dM "rounds" "Web.rounds" 15]
def fn : List He.DefD := fnG ++ fnM
def faG : List He.Fa := [.glo "is_within", .glo "is_pair", .glo "is_listed", .glo "column", .glo "folds_of", .glo "need_fold", .glo "partners", .glo "fold_parts", .glo "fold", .glo "total",
  .glo "_law_bag", .glo "_law_pull", .glo "_law_of", .glo "_law_same", .glo "_law_mixed", .glo "_law_web", .glo "_law_made", .glo "_law_tells", .glo "_law_outs", .glo "_law_ins", .glo "_law_split",
  .glo "_law_part", .glo "_law_splits", .glo "_law_rounds", .glo "_law_orders", .glo "_law_namings", .glo "law", .glo "Web"]
def faF : List He.Fa := [.free "isinstance", .free "int", .free "bool", .free "list", .free "tuple", .free "len", .free "all", .free "range", .free "enumerate", .free "sum", .free "sorted", .free "zip", .free "str"]
def faC : List He.Fa := [.int "MOST_ROOMS" 100, .int "MOST_ARROWS" 400, .int "MOST_LENGTH" 60, .cls "Web", .mkr "Web", .noat "Web" "size", .noat "Web" "pairs", .noat "Web" "leaving", .noat "Web" "coming",
  .meth "Web" "__len__", .meth "Web" "rooms", .meth "Web" "arrows", .meth "Web" "has_arrow", .meth "Web" "need_room", .meth "Web" "begin", .meth "Web" "end", .meth "Web" "outs", .meth "Web" "ins", .meth "Web" "rounds"]
def fa : List He.Fa := faG ++ (faF ++ faC)
abbrev R : PySem.W.OpenRow := PySem.W.OpenLaw.row PySem.Challenge.rw_aheadfold_k25_whole_whatever_the_order_o
abbrev hk : PySem.W.Hook := He.hookD 5 fa fn
def ob (s : PySem.W.SharedT) : He.AlD := He.obsDG 5 fa fn (HandSHeadRun.getT s)
theorem ob_eq (s : PySem.W.SharedT) : ob s = hk.obs s.abs := He.obsDG_eq (HandSHeadRun.getT_eq s)
def loose1 : List Str := ["_wall", "FoldError", "BadWeb", "BadRoom", "BadArrow", "BadFold", "BadWindow", "TooMany", "MOST_ROOMS", "MOST_ARROWS", "MOST_ROWS", "MOST_WINDOW", "MOST_LENGTH"]
def loose2 : List Str := ["is_within", "is_listed", "is_pair", "Web", "column", "folds_of", "need_fold", "partners", "fold_parts", "fold", "total"]
def loose3 : List Str := ["_law_bag", "_law_pull", "_law_of", "_law_same", "_law_mixed", "_law_web", "_law_made", "_law_tells", "_law_outs", "_law_ins", "_law_split", "_law_part", "_law_splits", "_law_rounds", "_law_orders", "_law_namings"]
def loose : List Str := loose1 ++ (loose2 ++ loose3)
theorem run (w : World) : HandSHeadRun.RunEq R (PySem.W.view R.prog [44]) hk ob 4000 loose w := by
  intro os
  kernel_rfl
end AF

set_option maxRecDepth 100000
set_option maxHeartbeats 0
namespace AF
open PySem PySem.Spec PyProof.Rows L2
open AW (top met spLaw)
theorem chain {P : Program} {w : World} {K : PySem.W.Frag} {h : Heap} {mg : Str → Option Value} {base : Heap} (X : K.In h) (G : h.Ns mainGlobals mg) (c : He.SaysD fa fn K) {f : Addr} {fd : FuncData} (F : AW.FnP K "law" "law" (top 44) f fd) :
    FnOk P w K mg base CX0 30 f fd ["_law_script"] (AW.spLaw K) := by
  obtain ⟨fd0, F0⟩ := c.def_ 0 (d := dG "is_within" 15) rfl
  have h0 := He.glo_ok X G (c.fact 0 (f := .glo "is_within") rfl)
  obtain ⟨fd1, F1⟩ := c.def_ 1 (d := dG "is_pair" 17) rfl
  have h1 := He.glo_ok X G (c.fact 1 (f := .glo "is_pair") rfl)
  obtain ⟨fd2, F2⟩ := c.def_ 2 (d := dG "is_listed" 16) rfl
  have h2 := He.glo_ok X G (c.fact 2 (f := .glo "is_listed") rfl)
  obtain ⟨fd3, F3⟩ := c.def_ 3 (d := dG "column" 20) rfl
  have h3 := He.glo_ok X G (c.fact 3 (f := .glo "column") rfl)
  obtain ⟨fd4, F4⟩ := c.def_ 4 (d := dG "folds_of" 21) rfl
  have h4 := He.glo_ok X G (c.fact 4 (f := .glo "folds_of") rfl)
  obtain ⟨fd5, F5⟩ := c.def_ 5 (d := dG "need_fold" 22) rfl
  have h5 := He.glo_ok X G (c.fact 5 (f := .glo "need_fold") rfl)
  obtain ⟨fd6, F6⟩ := c.def_ 6 (d := dG "partners" 23) rfl
  have h6 := He.glo_ok X G (c.fact 6 (f := .glo "partners") rfl)
  obtain ⟨fd7, F7⟩ := c.def_ 7 (d := dG "fold_parts" 24) rfl
  have h7 := He.glo_ok X G (c.fact 7 (f := .glo "fold_parts") rfl)
  obtain ⟨fd8, F8⟩ := c.def_ 8 (d := dG "fold" 25) rfl
  have h8 := He.glo_ok X G (c.fact 8 (f := .glo "fold") rfl)
  obtain ⟨fd9, F9⟩ := c.def_ 9 (d := dG "total" 26) rfl
  have h9 := He.glo_ok X G (c.fact 9 (f := .glo "total") rfl)
  obtain ⟨fd10, F10⟩ := c.def_ 10 (d := dG "_law_bag" 28) rfl
  have h10 := He.glo_ok X G (c.fact 10 (f := .glo "_law_bag") rfl)
  obtain ⟨fd11, F11⟩ := c.def_ 11 (d := dG "_law_pull" 29) rfl
  have h11 := He.glo_ok X G (c.fact 11 (f := .glo "_law_pull") rfl)
  obtain ⟨fd12, F12⟩ := c.def_ 12 (d := dG "_law_of" 30) rfl
  have h12 := He.glo_ok X G (c.fact 12 (f := .glo "_law_of") rfl)
  obtain ⟨fd13, F13⟩ := c.def_ 13 (d := dG "_law_same" 31) rfl
  have h13 := He.glo_ok X G (c.fact 13 (f := .glo "_law_same") rfl)
  obtain ⟨fd14, F14⟩ := c.def_ 14 (d := dG "_law_mixed" 32) rfl
  have h14 := He.glo_ok X G (c.fact 14 (f := .glo "_law_mixed") rfl)
  obtain ⟨fd15, F15⟩ := c.def_ 15 (d := dG "_law_web" 33) rfl
  have h15 := He.glo_ok X G (c.fact 15 (f := .glo "_law_web") rfl)
  obtain ⟨fd16, F16⟩ := c.def_ 16 (d := dG "_law_made" 34) rfl
  have h16 := He.glo_ok X G (c.fact 16 (f := .glo "_law_made") rfl)
  obtain ⟨fd17, F17⟩ := c.def_ 17 (d := dG "_law_tells" 35) rfl
  have h17 := He.glo_ok X G (c.fact 17 (f := .glo "_law_tells") rfl)
  obtain ⟨fd18, F18⟩ := c.def_ 18 (d := dG "_law_outs" 36) rfl
  have h18 := He.glo_ok X G (c.fact 18 (f := .glo "_law_outs") rfl)
  obtain ⟨fd19, F19⟩ := c.def_ 19 (d := dG "_law_ins" 37) rfl
  have h19 := He.glo_ok X G (c.fact 19 (f := .glo "_law_ins") rfl)
  obtain ⟨fd20, F20⟩ := c.def_ 20 (d := dG "_law_split" 38) rfl
  have h20 := He.glo_ok X G (c.fact 20 (f := .glo "_law_split") rfl)
  obtain ⟨fd21, F21⟩ := c.def_ 21 (d := dG "_law_part" 39) rfl
  have h21 := He.glo_ok X G (c.fact 21 (f := .glo "_law_part") rfl)
  obtain ⟨fd22, F22⟩ := c.def_ 22 (d := dG "_law_splits" 40) rfl
  have h22 := He.glo_ok X G (c.fact 22 (f := .glo "_law_splits") rfl)
  obtain ⟨fd23, F23⟩ := c.def_ 23 (d := dG "_law_rounds" 41) rfl
  have h23 := He.glo_ok X G (c.fact 23 (f := .glo "_law_rounds") rfl)
  obtain ⟨fd24, F24⟩ := c.def_ 24 (d := dG "_law_orders" 42) rfl
  have h24 := He.glo_ok X G (c.fact 24 (f := .glo "_law_orders") rfl)
  obtain ⟨fd25, F25⟩ := c.def_ 25 (d := dG "_law_namings" 43) rfl
  have h25 := He.glo_ok X G (c.fact 25 (f := .glo "_law_namings") rfl)
  obtain ⟨gd0, M0⟩ := c.def_ 27 (d := dM "__init__" "Web.__init__" 0) rfl
  obtain ⟨gd1, M1⟩ := c.def_ 28 (d := dM "__len__" "Web.__len__" 2) rfl
  obtain ⟨gd2, M2⟩ := c.def_ 29 (d := dM "rooms" "Web.rooms" 4) rfl
  obtain ⟨gd3, M3⟩ := c.def_ 30 (d := dM "arrows" "Web.arrows" 5) rfl
  obtain ⟨gd4, M4⟩ := c.def_ 31 (d := dM "has_arrow" "Web.has_arrow" 6) rfl
  obtain ⟨gd5, M5⟩ := c.def_ 32 (d := dM "need_room" "Web.need_room" 7) rfl
  obtain ⟨gd6, M6⟩ := c.def_ 33 (d := dM "begin" "Web.begin" 8) rfl
  obtain ⟨gd7, M7⟩ := c.def_ 34 (d := dM "end" "Web.end" 9) rfl
  obtain ⟨gd8, M8⟩ := c.def_ 35 (d := dM "outs" "Web.outs" 10) rfl
  obtain ⟨gd9, M9⟩ := c.def_ 36 (d := dM "ins" "Web.ins" 11) rfl
  obtain ⟨gd10, M10⟩ := c.def_ 37 (d := dM "rounds" "Web.rounds" 15) rfl
  have m1 := He.meth_ok (c.fact 50 (f := .meth "Web" "__len__") rfl)
  have m2 := He.meth_ok (c.fact 51 (f := .meth "Web" "rooms") rfl)
  have m3 := He.meth_ok (c.fact 52 (f := .meth "Web" "arrows") rfl)
  have m4 := He.meth_ok (c.fact 53 (f := .meth "Web" "has_arrow") rfl)
  have m5 := He.meth_ok (c.fact 54 (f := .meth "Web" "need_room") rfl)
  have m6 := He.meth_ok (c.fact 55 (f := .meth "Web" "begin") rfl)
  have m7 := He.meth_ok (c.fact 56 (f := .meth "Web" "end") rfl)
  have m8 := He.meth_ok (c.fact 57 (f := .meth "Web" "outs") rfl)
  have m9 := He.meth_ok (c.fact 58 (f := .meth "Web" "ins") rfl)
  have m10 := He.meth_ok (c.fact 59 (f := .meth "Web" "rounds") rfl)
  have hW := He.glo_ok X G (c.fact 27 (f := .glo "Web") rfl)
  have B : AW.Bn mg := ⟨He.free_ok X G (c.fact 28 (f := .free "isinstance") rfl), He.free_ok X G (c.fact 29 (f := .free "int") rfl), He.free_ok X G (c.fact 30 (f := .free "bool") rfl), He.free_ok X G (c.fact 31 (f := .free "list") rfl), He.free_ok X G (c.fact 32 (f := .free "tuple") rfl), He.free_ok X G (c.fact 33 (f := .free "len") rfl), He.free_ok X G (c.fact 34 (f := .free "all") rfl), He.free_ok X G (c.fact 35 (f := .free "range") rfl), He.free_ok X G (c.fact 36 (f := .free "enumerate") rfl), He.free_ok X G (c.fact 37 (f := .free "sum") rfl), He.free_ok X G (c.fact 38 (f := .free "sorted") rfl), He.free_ok X G (c.fact 39 (f := .free "zip") rfl), He.free_ok X G (c.fact 40 (f := .free "str") rfl), He.int_ok X G (c.fact 41 (f := .int "MOST_ROOMS" 100) rfl), He.int_ok X G (c.fact 42 (f := .int "MOST_ARROWS" 400) rfl), He.int_ok X G (c.fact 43 (f := .int "MOST_LENGTH" 60) rfl)⟩
  have W : AW.Wc K (He.ga K "Web") := ⟨He.cls_ok (c.fact 44 (f := .cls "Web") rfl), He.noat_ok (c.fact 46 (f := .noat "Web" "size") rfl), He.noat_ok (c.fact 47 (f := .noat "Web" "pairs") rfl), He.noat_ok (c.fact 48 (f := .noat "Web" "leaving") rfl), He.noat_ok (c.fact 49 (f := .noat "Web" "coming") rfl)⟩
  have mk := He.mkr_ok (c.fact 45 (f := .mkr "Web") rfl)
  have cWi := AW.ok_within (P := P) (w := w) (mg := mg) (base := base) B F0 h0
  have cLi := AW.ok_listed (P := P) (w := w) (mg := mg) (base := base) B F2 h2
  have cPa := AW.ok_pair (P := P) (w := w) (mg := mg) (base := base) B F1 h1 cLi cWi
  have nL := AW.ok_len (P := P) (w := w) (mg := mg) (base := base) B W m1 M1
  have nR := AW.ok_rooms (P := P) (w := w) (mg := mg) (base := base) W m2 M2
  have nA := AW.ok_arrows (P := P) (w := w) (mg := mg) (base := base) B W m3 M3
  have nH := AW.ok_has (P := P) (w := w) (mg := mg) (base := base) B W m4 M4 cWi
  have nN := AW.ok_need (P := P) (w := w) (mg := mg) (base := base) W m5 M5 cWi
  have nB := AW.ok_begin (P := P) (w := w) (mg := mg) (base := base) W m6 M6 nH
  have nE := AW.ok_end (P := P) (w := w) (mg := mg) (base := base) W m7 M7 nH
  have nO := AW.ok_outs (P := P) (w := w) (mg := mg) (base := base) B W m8 M8 nN
  have nI := AW.ok_ins (P := P) (w := w) (mg := mg) (base := base) B W m9 M9 nN
  have nRd := AW.ok_rounds (P := P) (w := w) (mg := mg) (base := base) B W m10 M10 cWi
  have kW := AW.ok_init (P := P) (w := w) (mg := mg) (base := base) B W mk hW M0 cWi cPa
  have cC := AW.ok_col (P := P) (w := w) (mg := mg) (base := base) B F3 h3 nB nI
  have cNf := AW.ok_needf (P := P) (w := w) (mg := mg) (base := base) F5 h5 nN cC
  have cFo := AW.ok_folds (P := P) (w := w) (mg := mg) (base := base) B F4 h4 nR cC
  have cPt := AW.ok_part (P := P) (w := w) (mg := mg) (base := base) B F6 h6 nR nO nE
  have cPs := AW.ok_parts (P := P) (w := w) (mg := mg) (base := base) B F7 h7 nR nL nB nE cNf cPt kW
  have cFd := AW.ok_fold (P := P) (w := w) (mg := mg) (base := base) F8 h8 cPs
  have cTo := AW.ok_total (P := P) (w := w) (mg := mg) (base := base) B F9 h9 cFo cFd
  have lPu := AW.ok_pull (P := P) (w := w) (mg := mg) (base := base) B F11 h11
  have lOf := AW.ok_of (P := P) (w := w) (mg := mg) (base := base) B F12 h12 lPu
  have lS0 := AW.ok_same0 (P := P) (w := w) (mg := mg) (base := base) B F13 h13
  have lSa := AW.ok_sameL (P := P) (w := w) (mg := mg) (base := base) B F13 h13 lS0
  have lMi := AW.ok_mixed (P := P) (w := w) (mg := mg) (base := base) B F14 h14 lPu
  have lWe := AW.ok_web (P := P) (w := w) (mg := mg) (base := base) B F15 h15 lPu lMi
  have lMa := AW.ok_made (P := P) (w := w) (mg := mg) (base := base) B F16 h16 kW
  have lTe := AW.ok_tells (P := P) (w := w) (mg := mg) (base := base) B F17 h17 nR nA
  have lOu := AW.ok_louts (P := P) (w := w) (mg := mg) (base := base) B F18 h18
  have lIn := AW.ok_lins (P := P) (w := w) (mg := mg) (base := base) B F19 h19
  have lSp := AW.ok_split (P := P) (w := w) (mg := mg) (base := base) B F20 h20 lIn
  have lPt := AW.ok_lpart (P := P) (w := w) (mg := mg) (base := base) B F21 h21 lOu lMi lPu
  have lSs := AW.ok_splits (P := P) (w := w) (mg := mg) (base := base) B F22 h22 lPu lPt lIn lSp
  have lRo := AW.ok_lrounds (P := P) (w := w) (mg := mg) (base := base) B F23 h23 lIn
  have lOr := AW.ok_orders (P := P) (w := w) (mg := mg) (base := base) B F24 h24
  have lNa := AW.ok_namings (P := P) (w := w) (mg := mg) (base := base) B F25 h25 lOr
  have lBa := AW.ok_bag (P := P) (w := w) (mg := mg) (base := base) B F10 h10
  exact AW.ok_law B F lBa lWe lSs lMa cFo lOf cFd cTo nR nL nRd lNa lTe lSa lRo
theorem facts {P : Program} {w : World} {K : PySem.W.Frag} {h : Heap} {mg : Str → Option Value} {f : Addr} (X : K.In h) (G : h.Ns mainGlobals mg) (hfa : mg ("law" : Str) = some (.ref f)) (c : He.SaysD fa fn K) :
    ∃ fd : FuncData, (∀ (s : Shared) (v : Value), BindsTo s fd ⟨[v], []⟩ [("_law_script", v)]) ∧ ∀ base : Heap, K.In base → base.Ns mainGlobals mg → FnOk P w K mg base CX0 30 f fd ["_law_script"] (spLaw K) := by
  obtain ⟨fd, F⟩ := c.def_ 26 (d := dG "law" 44) rfl
  have e := hfa.symm.trans (He.glo_ok X G (c.fact 26 (f := .glo "law") rfl))
  cases e
  have b := FunD.bindsA (ps := ["_law_script"]) F fun _ _ _ _ _ _ us hl => match us, hl with | [_], _ => rfl
  exact ⟨fd, fun s v => b s [v] rfl, fun base _ _ => chain X G c F⟩
end AF
open PySem PySem.W PySem.Calls PyProof.Rows
theorem PySem.Challenge.cw_aheadfold_k25_whole_whatever_the_order_o_holds : PySem.Challenge.rw_aheadfold_k25_whole_whatever_the_order_o.Holds := by
  w_on; o_law
  refine HandSHeadRun.head_any (r := OpenLaw.row PySem.Challenge.rw_aheadfold_k25_whole_whatever_the_order_o) (q := view (OpenLaw.row PySem.Challenge.rw_aheadfold_k25_whole_whatever_the_order_o).prog [44]) (H := AF.hk) (ob := AF.ob) (M := 4000) (loose := AF.loose) (d := HandSHeadRun.topDef (OpenLaw.row PySem.Challenge.rw_aheadfold_k25_whole_whatever_the_order_o).prog 44) (kwd := []) AF.ob_eq
    (by kernel_rfl) (fun s => by kernel_rfl) AF.run (by kernel_rfl) (by kernel_rfl) (by kernel_rfl) (by rfl) (by first | assumption | decide +kernel) (by decide +kernel) ⟨rfl, rfl, rfl, rfl, rfl, by decide +kernel⟩ ?hw ?hc
  case hw => w_witness2
  case hc =>
    refine L2.walk_ofE (l := PySem.Challenge.rw_aheadfold_k25_whole_whatever_the_order_o) (n := 63) (k := 30) (x := "_law_script") (CX := L2.CX0) rfl (by decide) (by kernel_rfl) ⟨rfl, by decide, by decide⟩ ?F (fun _ _ _ _ z => z)
    intro w mg fa h Y G hmg0
    obtain ⟨K, KX, c⟩ := Y
    have hmg : mg ("law" : PySem.Str) = some (.ref fa) := by
      have e : (HandSHeadRun.topDef (OpenLaw.row PySem.Challenge.rw_aheadfold_k25_whole_whatever_the_order_o).prog 44).name = ("law" : PySem.Str) := by kernel_rfl
      rw [← e]
      exact hmg0
    obtain ⟨fd, hb, hF⟩ := AF.facts (P := (PySem.Challenge.rw_aheadfold_k25_whole_whatever_the_order_o).prog) (w := w) KX G hmg c
    exact ⟨K, fd, AW.spLaw K, KX, hb, fun H a ns hl _ hS => ⟨a, ns, rfl, hS, hl, fun _ => rfl⟩, hF⟩

