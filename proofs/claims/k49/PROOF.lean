import PyProof.Rows.All
import Wide.All
import OpenK.AllK
import Wide.FinOn
import HandS.ForMost
import HandS.Evl
import HandS.IsInst
import HandS.Strs
import HandS.SetFor
import HandS.TupSets
import HandS.Deep
import HandS.Zip
import HandS.Style
import HandS.Conv
import HandS.Wide
import HandS.SortKw
import HandS.Flow
import KE.KTupSum
import KE.DatumOrd
import KE.SortKeyHeap
import KE.GoesEnum
import HandS.WideBits
import HandS.Wide
import PySem.Challenge.RW_nearhouses_k49_whole_settled_houses
set_option Elab.async false
set_option linter.all false
set_option maxRecDepth 100000
set_option maxHeartbeats 8000000
namespace NH
/-! ## Sums over lists of places -/
def sm (l : List Nat) (f : Nat → Int) : Int := (l.map f).sum
theorem sm_nil (f : Nat → Int) : sm [] f = 0 := rfl
theorem sm_cons (a : Nat) (l : List Nat) (f : Nat → Int) : sm (a :: l) f = f a + sm l f := by simp [sm]
theorem sm_add (l : List Nat) (f g : Nat → Int) : sm l (fun x => f x + g x) = sm l f + sm l g := by
  induction l with
  | nil => rfl
  | cons a l ih => rw [sm_cons, sm_cons, sm_cons, ih]; omega
theorem sm_zero (l : List Nat) : sm l (fun _ => 0) = 0 := by
  induction l with
  | nil => rfl
  | cons a l ih => rw [sm_cons, ih]; rfl
theorem sm_mul (l : List Nat) (c : Int) (f : Nat → Int) : sm l (fun x => c * f x) = c * sm l f := by
  induction l with
  | nil => simp [sm]
  | cons a l ih => rw [sm_cons, sm_cons, ih, Int.mul_add]
theorem sm_le {l : List Nat} {f g : Nat → Int} (h : ∀ x ∈ l, f x ≤ g x) : sm l f ≤ sm l g := by
  induction l with
  | nil => exact Int.le_refl _
  | cons a l ih =>
    rw [sm_cons, sm_cons]
    have h1 := h a List.mem_cons_self
    have h2 := ih fun x hx => h x (List.mem_cons_of_mem _ hx)
    omega
theorem sm_congr {l : List Nat} {f g : Nat → Int} (h : ∀ x ∈ l, f x = g x) : sm l f = sm l g := by
  induction l with
  | nil => rfl
  | cons a l ih =>
    rw [sm_cons, sm_cons, h a List.mem_cons_self, ih fun x hx => h x (List.mem_cons_of_mem _ hx)]
theorem sm_nonneg {l : List Nat} {f : Nat → Int} (h : ∀ x ∈ l, 0 ≤ f x) : 0 ≤ sm l f := by
  have := sm_le (l := l) (f := fun _ => 0) (g := f) h
  rwa [sm_zero] at this
theorem sm_comm (l m : List Nat) (f : Nat → Nat → Int) : sm l (fun x => sm m (fun y => f x y)) = sm m (fun y => sm l (fun x => f x y)) := by
  induction l with
  | nil =>
    rw [sm_nil]
    exact (sm_zero m).symm
  | cons a l ih =>
    rw [sm_cons, ih, ← sm_add]
    exact sm_congr fun y _ => (sm_cons a l (fun x => f x y)).symm
theorem sm_pick_not {l : List Nat} {a : Nat} {c : Int} (h : a ∉ l) : sm l (fun x => if a = x then c else 0) = 0 := by
  refine Eq.trans (sm_congr (g := fun _ => 0) fun x hx => if_neg fun (e : a = x) => h (e ▸ hx)) (sm_zero l)
theorem sm_pick {l : List Nat} {a : Nat} {c : Int} (hn : l.Nodup) (h : a ∈ l) : sm l (fun x => if a = x then c else 0) = c := by
  induction l with
  | nil => exact absurd h List.not_mem_nil
  | cons b l ih =>
    rw [sm_cons]
    obtain ⟨h1, h2⟩ := List.nodup_cons.mp hn
    by_cases e : a = b
    · subst e
      rw [if_pos rfl, sm_pick_not h1]; omega
    · rw [if_neg e, ih h2 ((List.mem_cons.mp h).resolve_left e)]; omega
theorem sm_one (l : List Nat) : sm l (fun _ => 1) = (l.length : Int) := by
  induction l with
  | nil => rfl
  | cons a l ih => rw [sm_cons, ih, List.length_cons]; omega
theorem sm_mem_le {l : List Nat} {f : Nat → Int} {a : Nat} (h : ∀ x ∈ l, 0 ≤ f x) (ha : a ∈ l) : f a ≤ sm l f := by
  induction l with
  | nil => exact absurd ha List.not_mem_nil
  | cons b l ih =>
    rw [sm_cons]
    have hb := h b List.mem_cons_self
    have hl : ∀ x ∈ l, 0 ≤ f x := fun x hx => h x (List.mem_cons_of_mem _ hx)
    rcases List.mem_cons.mp ha with e | e
    · subst e
      have := sm_nonneg hl
      omega
    · have := ih hl e
      omega
/-- a least one -/
theorem least_of {l : List Nat} (f : Nat → Int) (h : l ≠ []) : ∃ a ∈ l, ∀ x ∈ l, f a ≤ f x := by
  induction l with
  | nil => exact absurd rfl h
  | cons b l ih =>
    by_cases e : l = []
    · subst e
      exact ⟨b, List.mem_cons_self, fun x hx => by
        rcases List.mem_cons.mp hx with e | e
        · subst e; exact Int.le_refl _
        · exact absurd e List.not_mem_nil⟩
    · obtain ⟨a, ha, hl⟩ := ih e
      by_cases q : f b ≤ f a
      · refine ⟨b, List.mem_cons_self, fun x hx => ?_⟩
        rcases List.mem_cons.mp hx with e | e
        · subst e; exact Int.le_refl _
        · exact Int.le_trans q (hl x e)
      · refine ⟨a, List.mem_cons_of_mem _ ha, fun x hx => ?_⟩
        rcases List.mem_cons.mp hx with e | e
        · subst e; omega
        · exact hl x e

/-! ## Which exchanges are looked at: the counting part of the proof of the bound 5 -/
theorem swap_count {S O : List Nat} {η : Nat → Nat} {A R : Nat → Int} (hS : S.Nodup) (_hO : O.Nodup) (hl : S.length = O.length) (hη : ∀ f ∈ O, η f ∈ S) (hR : ∀ r ∈ S, 0 ≤ R r)
    (good : ∀ r ∈ S, ∀ f ∈ O, (∀ g ∈ O, g ≠ f → η g ≠ r) → 0 ≤ A f + R r) : 0 ≤ sm O A + 2 * sm S R := by
  -- how many of O are caught by r
  let c : Nat → Int := fun r => sm O (fun f => if η f = r then 1 else 0)
  have c0 : ∀ r, 0 ≤ c r := fun r => sm_nonneg fun f _ => by split <;> omega
  have ctot : sm S c = (S.length : Int) := by
    show sm S (fun r => sm O (fun f => if η f = r then 1 else 0)) = _
    rw [sm_comm, hl, ← sm_one]
    exact sm_congr fun f hf => sm_pick hS (hη f hf)
  have c1 : ∀ f ∈ O, 1 ≤ c (η f) := fun f hf => by
    have := sm_mem_le (l := O) (f := fun g => if η g = η f then (1 : Int) else 0) (a := f) (fun g _ => by split <;> omega) hf
    rw [if_pos rfl] at this
    exact this
  -- two of O that are caught by the same: then at least 2
  have c2 : ∀ f ∈ O, c (η f) = 1 → ∀ g ∈ O, g ≠ f → η g ≠ η f := by
    intro f hf h1 g hg ne e
    have key : sm O (fun x => (if f = x then (1 : Int) else 0) + (if g = x then (1 : Int) else 0)) ≤ sm O (fun x => if η x = η f then (1 : Int) else 0) := by
      refine sm_le fun x hx => ?_
      by_cases e1 : f = x
      · subst e1
        rw [if_pos rfl, if_neg ne, if_pos rfl]; omega
      · rw [if_neg e1]
        by_cases e2 : g = x
        · subst e2
          rw [if_pos rfl, if_pos e]; omega
        · rw [if_neg e2]
          split <;> omega
    rw [sm_add, sm_pick _hO hf, sm_pick _hO hg] at key
    have : c (η f) = 1 := h1
    have k2 : (1 : Int) + 1 ≤ c (η f) := key
    omega
  have cz : ∀ r, c r = 0 → ∀ g ∈ O, η g ≠ r := by
    intro r h0 g hg e
    have := c1 g hg
    rw [e] at this
    omega
  -- how many of O are caught by one that catches several
  let m : Int := sm O (fun f => if c (η f) = 1 then 0 else 1)
  let z : Int := sm S (fun r => if c r = 0 then 1 else 0)
  have pick : ∀ (h : Nat → Int), sm O (fun f => h (η f)) = sm S (fun r => h r * c r) := by
    intro h
    have e1 : sm O (fun f => h (η f)) = sm O (fun f => sm S (fun r => if η f = r then h r else 0)) := by
      refine sm_congr fun f hf => ?_
      have e2 : sm S (fun r => if η f = r then h r else 0) = sm S (fun r => if η f = r then h (η f) else 0) := sm_congr fun r _ => by
        by_cases e : η f = r
        · rw [if_pos e, if_pos e, e]
        · rw [if_neg e, if_neg e]
      rw [e2, sm_pick hS (hη f hf)]
    rw [e1, sm_comm]
    refine sm_congr fun r _ => ?_
    show _ = h r * sm O _
    rw [← sm_mul]
    refine sm_congr fun f _ => ?_
    by_cases e : η f = r
    · rw [if_pos e, if_pos e]; omega
    · rw [if_neg e, if_neg e]; omega
  have mz : m ≤ 2 * z := by
    have e1 : m = sm S (fun r => (if c r = 1 then 0 else 1) * c r) := pick (fun r => if c r = 1 then 0 else 1)
    have e2 : m ≤ sm S (fun r => (2 * c r + 2 * (if c r = 0 then 1 else 0)) + 2 * (-1)) := by
      rw [e1]
      refine sm_le fun r _ => ?_
      have := c0 r
      by_cases h1 : c r = 1
      · rw [if_pos h1, h1]; decide
      · rw [if_neg h1]
        by_cases h0 : c r = 0
        · rw [if_pos h0, h0]; decide
        · rw [if_neg h0]; omega
    rw [sm_add, sm_add, sm_mul, sm_mul, sm_mul, ctot] at e2
    have e3 : sm S (fun _ => (-1 : Int)) = - (S.length : Int) := by
      have q := sm_mul S (-1) (fun _ => 1)
      rw [sm_one] at q
      have q2 : sm S (fun _ => (-1 : Int)) = sm S (fun _ => -1 * 1) := rfl
      rw [q2, q]; omega
    rw [e3] at e2
    have e4 : z = sm S (fun r => if c r = 0 then 1 else 0) := rfl
    omega
  -- the first part: those caught alone
  have part1 : 0 ≤ sm O (fun f => if c (η f) = 1 then A f else 0) + sm S (fun r => if c r = 1 then R r else 0) := by
    have e1 : sm S (fun r => if c r = 1 then R r else 0) = sm O (fun f => if c (η f) = 1 then R (η f) else 0) := by
      have q := pick (fun r => if c r = 1 then R r else 0)
      rw [q]
      refine sm_congr fun r _ => ?_
      by_cases h : c r = 1
      · rw [if_pos h, h]; omega
      · rw [if_neg h]; omega
    rw [e1, ← sm_add]
    refine sm_nonneg fun f hf => ?_
    by_cases h : c (η f) = 1
    · rw [if_pos h, if_pos h]
      exact good _ (hη f hf) f hf (c2 f hf h)
    · rw [if_neg h, if_neg h]; decide
  have part2 : 0 ≤ sm O (fun f => if c (η f) = 1 then 0 else A f) + 2 * sm S (fun r => if c r = 0 then R r else 0) := by
    have Zn : 0 ≤ sm S (fun r => if c r = 0 then R r else 0) := sm_nonneg fun r hr => by
      split
      · exact hR r hr
      · omega
    by_cases hz : S.filter (fun r => c r = 0) = []
    · have zall : ∀ r ∈ S, ¬ c r = 0 := fun r hr h => by
        have : r ∈ S.filter (fun r => c r = 0) := List.mem_filter.mpr ⟨hr, decide_eq_true h⟩
        rw [hz] at this
        exact absurd this List.not_mem_nil
      have z0 : z = 0 := by
        show sm S (fun r => if c r = 0 then 1 else 0) = 0
        exact Eq.trans (sm_congr (g := fun _ => 0) fun r hr => if_neg (zall r hr)) (sm_zero S)
      have m0 : ∀ f ∈ O, c (η f) = 1 := fun f hf => by
        apply Classical.byContradiction
        intro h
        have := sm_mem_le (l := O) (f := fun f => if c (η f) = 1 then (0 : Int) else 1) (a := f) (fun g _ => by split <;> omega) hf
        rw [if_neg h] at this
        have : (1 : Int) ≤ m := this
        omega
      have e : sm O (fun f => if c (η f) = 1 then 0 else A f) = 0 := by
        exact Eq.trans (sm_congr (g := fun _ => 0) fun f hf => if_pos (m0 f hf)) (sm_zero O)
      omega
    · obtain ⟨q, hq, hl'⟩ := least_of R hz
      obtain ⟨hqS, hq0'⟩ := List.mem_filter.mp hq
      have hq0 : c q = 0 := of_decide_eq_true hq0'
      have h1 : 0 ≤ sm O (fun f => (if c (η f) = 1 then 0 else A f) + R q * (if c (η f) = 1 then 0 else 1)) := by
        refine sm_nonneg fun f hf => ?_
        by_cases h : c (η f) = 1
        · rw [if_pos h, if_pos h]; omega
        · rw [if_neg h, if_neg h]
          have := good q hqS f hf fun g hg _ => cz q hq0 g hg
          omega
      rw [sm_add, sm_mul] at h1
      have h2 : R q * z ≤ sm S (fun r => if c r = 0 then R r else 0) := by
        show R q * sm S (fun r => if c r = 0 then 1 else 0) ≤ _
        rw [← sm_mul]
        refine sm_le fun r hr => ?_
        by_cases h : c r = 0
        · rw [if_pos h, if_pos h]
          have := hl' r (List.mem_filter.mpr ⟨hr, decide_eq_true h⟩)
          omega
        · rw [if_neg h, if_neg h]; omega
      have h3 : R q * m ≤ R q * (2 * z) := Int.mul_le_mul_of_nonneg_left mz (hR q hqS)
      have h4 : R q * (2 * z) = 2 * (R q * z) := by rw [← Int.mul_assoc, Int.mul_comm (R q) 2, Int.mul_assoc]
      have h5 : sm O (fun f => if c (η f) = 1 then (0 : Int) else 1) = m := rfl
      rw [h5] at h1
      omega
  have tot : sm O A = sm O (fun f => if c (η f) = 1 then A f else 0) + sm O (fun f => if c (η f) = 1 then 0 else A f) := by
    rw [← sm_add]
    refine sm_congr fun f _ => ?_
    split <;> omega
  have tr : sm S (fun r => if c r = 1 then R r else 0) + 2 * sm S (fun r => if c r = 0 then R r else 0) ≤ 2 * sm S R := by
    rw [← sm_mul, ← sm_mul, ← sm_add]
    refine sm_le fun r hr => ?_
    have := hR r hr
    by_cases h1 : c r = 1
    · have h0 : ¬ c r = 0 := by omega
      rw [if_pos h1, if_neg h0]; omega
    · rw [if_neg h1]
      split <;> omega
  omega
end NH
namespace NH
/-! ## The least of a list, and what houses cost -/
def minL : List Int → Int
  | [] => 0
  | [a] => a
  | a :: b :: r => if a ≤ minL (b :: r) then a else minL (b :: r)
theorem minL_spec : ∀ {l : List Int}, l ≠ [] → minL l ∈ l ∧ ∀ x ∈ l, minL l ≤ x
  | [], h => absurd rfl h
  | [a], _ => ⟨List.mem_cons_self, fun x hx => by
    rcases List.mem_cons.mp hx with e | e
    · subst e; exact Int.le_refl _
    · exact absurd e List.not_mem_nil⟩
  | a :: b :: r, _ => by
    obtain ⟨h1, h2⟩ := minL_spec (l := b :: r) (fun e => by cases e)
    show (if a ≤ minL (b :: r) then a else minL (b :: r)) ∈ _ ∧ ∀ x ∈ _, (if a ≤ minL (b :: r) then a else minL (b :: r)) ≤ x
    by_cases q : a ≤ minL (b :: r)
    · rw [if_pos q]
      refine ⟨List.mem_cons_self, fun x hx => ?_⟩
      rcases List.mem_cons.mp hx with e | e
      · subst e; exact Int.le_refl _
      · exact Int.le_trans q (h2 x e)
    · rw [if_neg q]
      refine ⟨List.mem_cons_of_mem _ h1, fun x hx => ?_⟩
      rcases List.mem_cons.mp hx with e | e
      · subst e; omega
      · exact h2 x e
theorem minL_mem {l : List Int} (h : l ≠ []) : minL l ∈ l := (minL_spec h).1
theorem minL_le {l : List Int} {x : Int} (h : x ∈ l) : minL l ≤ x := (minL_spec (List.ne_nil_of_mem h)).2 x h
theorem minL_eq {l : List Int} {m : Int} (h1 : m ∈ l) (h2 : ∀ x ∈ l, m ≤ x) : m = minL l := by
  have a := minL_le h1
  have b := h2 _ (minL_mem (List.ne_nil_of_mem h1))
  omega
theorem minL_sub {l m : List Int} (h : l ≠ []) (s : ∀ x ∈ l, x ∈ m) : minL m ≤ minL l := minL_le (s _ (minL_mem h))
/-- the distance of j from the nearest house -/
def nearF (d : Nat → Nat → Int) (h : List Nat) (j : Nat) : Int := minL (h.map (d j))
theorem nearF_le {d : Nat → Nat → Int} {h : List Nat} {j x : Nat} (hx : x ∈ h) : nearF d h j ≤ d j x := minL_le (List.mem_map.mpr ⟨x, hx, rfl⟩)
theorem nearF_at {d : Nat → Nat → Int} {h : List Nat} (j : Nat) (hn : h ≠ []) : ∃ x ∈ h, d j x = nearF d h j := by
  obtain ⟨x, hx, e⟩ := List.mem_map.mp (minL_mem (l := h.map (d j)) (fun e => hn (List.map_eq_nil_iff.mp e)))
  exact ⟨x, hx, e⟩
theorem nearF_sub {d : Nat → Nat → Int} {h g : List Nat} {j : Nat} (hn : h ≠ []) (s : ∀ x ∈ h, x ∈ g) : nearF d g j ≤ nearF d h j := by
  obtain ⟨x, hx, e⟩ := nearF_at (d := d) j hn
  rw [← e]
  exact nearF_le (s x hx)
theorem nearF_same {d : Nat → Nat → Int} {h g : List Nat} {j : Nat} (s : ∀ x, x ∈ h ↔ x ∈ g) : nearF d g j = nearF d h j := by
  by_cases hn : h = []
  · subst hn
    have : g = [] := List.eq_nil_iff_forall_not_mem.mpr fun x hx => absurd ((s x).mpr hx) List.not_mem_nil
    rw [this]
  · have hg : g ≠ [] := fun e => by
      subst e
      exact hn (List.eq_nil_iff_forall_not_mem.mpr fun x hx => absurd ((s x).mp hx) List.not_mem_nil)
    have a := nearF_sub (d := d) (j := j) hn fun x hx => (s x).mp hx
    have b := nearF_sub (d := d) (j := j) hg fun x hx => (s x).mpr hx
    omega
def costF (n : Nat) (w : Nat → Int) (d : Nat → Nat → Int) (h : List Nat) : Int := sm (List.range n) fun j => w j * nearF d h j
theorem costF_same {n : Nat} {w : Nat → Int} {d : Nat → Nat → Int} {h g : List Nat} (s : ∀ x, x ∈ h ↔ x ∈ g) : costF n w d g = costF n w d h := by
  refine sm_congr fun j _ => ?_
  rw [nearF_same s]
/-- distances of n points -/
structure Metric (n : Nat) (d : Nat → Nat → Int) : Prop where
  pos : ∀ i j, i < n → j < n → 0 ≤ d i j
  sym : ∀ i j, i < n → j < n → d i j = d j i
  tri : ∀ i j k, i < n → j < n → k < n → d i j ≤ d i k + d k j
theorem nearF_nonneg {n : Nat} {d : Nat → Nat → Int} (M : Metric n d) {h : List Nat} (hn : h ≠ []) (hb : ∀ x ∈ h, x < n) {j : Nat} (hj : j < n) : 0 ≤ nearF d h j := by
  obtain ⟨x, hx, e⟩ := nearF_at (d := d) j hn
  rw [← e]
  exact M.pos _ _ hj (hb x hx)
theorem costF_nonneg {n : Nat} {w : Nat → Int} {d : Nat → Nat → Int} (M : Metric n d) (hw : ∀ j, j < n → 0 ≤ w j) {h : List Nat} (hn : h ≠ []) (hb : ∀ x ∈ h, x < n) : 0 ≤ costF n w d h :=
  sm_nonneg fun j hj => Int.mul_nonneg (hw j (List.mem_range.mp hj)) (nearF_nonneg M hn hb (List.mem_range.mp hj))
/-- V. Arya and others, 2001, in the shape of A. Gupta and K. Tangwongsan, 2008: no exchange of one house lets the sum fall, then the sum is at most five times the least one -/
theorem five {n : Nat} {w : Nat → Int} {d : Nat → Nat → Int} (M : Metric n d) (hw : ∀ j, j < n → 0 ≤ w j) {S O : List Nat} (hS : S.Nodup) (hO : O.Nodup) (hl : S.length = O.length) (hn : S ≠ [])
    (bS : ∀ x ∈ S, x < n) (bO : ∀ x ∈ O, x < n) (loc : ∀ r ∈ S, ∀ f, f < n → f ∉ S → costF n w d S ≤ costF n w d (f :: S.filter (· ≠ r))) :
    costF n w d S ≤ 5 * costF n w d O := by
  have hnO : O ≠ [] := fun e => by
    subst e
    exact hn (List.length_eq_zero_iff.mp hl)
  -- the nearest ones, by choice
  have cS : ∀ j, ∃ x, x ∈ S ∧ d j x = nearF d S j := fun j => by
    obtain ⟨x, h1, h2⟩ := nearF_at (d := d) j hn
    exact ⟨x, h1, h2⟩
  have cO : ∀ j, ∃ x, x ∈ O ∧ d j x = nearF d O j := fun j => by
    obtain ⟨x, h1, h2⟩ := nearF_at (d := d) j hnO
    exact ⟨x, h1, h2⟩
  obtain ⟨σ, hσ⟩ : ∃ σ : Nat → Nat, ∀ j, σ j ∈ S ∧ d j (σ j) = nearF d S j := ⟨fun j => Classical.choose (cS j), fun j => Classical.choose_spec (cS j)⟩
  obtain ⟨τ, hτ⟩ : ∃ τ : Nat → Nat, ∀ j, τ j ∈ O ∧ d j (τ j) = nearF d O j := ⟨fun j => Classical.choose (cO j), fun j => Classical.choose_spec (cO j)⟩
  let A : Nat → Int := fun f => sm (List.range n) fun j => w j * (if τ j = f then nearF d O j - nearF d S j else 0)
  let R : Nat → Int := fun r => sm (List.range n) fun j => w j * (if σ j = r then 2 * nearF d O j else 0)
  have o0 : ∀ j, j < n → 0 ≤ nearF d O j := fun j hj => nearF_nonneg M hnO bO hj
  have key := swap_count (S := S) (O := O) (η := σ) (A := A) (R := R) hS hO hl (fun f _ => (hσ f).1) (fun r _ => sm_nonneg fun j hj => by
    have hj := List.mem_range.mp hj
    refine Int.mul_nonneg (hw j hj) ?_
    have := o0 j hj
    split <;> omega) ?_
  · have eA : sm O A = costF n w d O - costF n w d S := by
      show sm O (fun f => sm (List.range n) fun j => w j * (if τ j = f then nearF d O j - nearF d S j else 0)) = _
      rw [sm_comm]
      have : ∀ j ∈ List.range n, sm O (fun f => w j * (if τ j = f then nearF d O j - nearF d S j else 0)) = w j * nearF d O j + (-1) * (w j * nearF d S j) := fun j _ => by
        rw [sm_mul, sm_pick hO (hτ j).1, Int.mul_sub]; omega
      rw [sm_congr this, sm_add, sm_mul]
      show costF n w d O + -1 * costF n w d S = _
      omega
    have eR : sm S R = 2 * costF n w d O := by
      show sm S (fun r => sm (List.range n) fun j => w j * (if σ j = r then 2 * nearF d O j else 0)) = _
      rw [sm_comm]
      have : ∀ j ∈ List.range n, sm S (fun r => w j * (if σ j = r then 2 * nearF d O j else 0)) = 2 * (w j * nearF d O j) := fun j _ => by
        rw [sm_mul, sm_pick hS (hσ j).1, ← Int.mul_assoc, Int.mul_comm (w j) 2, Int.mul_assoc]
      rw [sm_congr this, sm_mul]
      rfl
    rw [eA, eR] at key
    omega
  · intro r hr f hf good
    -- the sum behind the exchange of r for f
    have hle : costF n w d S ≤ costF n w d (f :: S.filter (· ≠ r)) := by
      by_cases hfS : f ∈ S
      · refine sm_le fun j hj => ?_
        refine Int.mul_le_mul_of_nonneg_left (nearF_sub (fun e => by cases e) fun x hx => ?_) (hw j (List.mem_range.mp hj))
        rcases List.mem_cons.mp hx with e | e
        · subst e; exact hfS
        · exact (List.mem_filter.mp e).1
      · exact loc r hr f (bO f hf) hfS
    have hub : costF n w d (f :: S.filter (· ≠ r)) ≤ sm (List.range n) fun j => w j * nearF d S j + (w j * (if τ j = f then nearF d O j - nearF d S j else 0) + w j * (if σ j = r then 2 * nearF d O j else 0)) := by
      refine sm_le fun j hj => ?_
      have hj := List.mem_range.mp hj
      rw [← Int.mul_add, ← Int.mul_add]
      refine Int.mul_le_mul_of_nonneg_left ?_ (hw j hj)
      have hoj := o0 j hj
      by_cases e1 : τ j = f
      · have h1 : nearF d (f :: S.filter (· ≠ r)) j ≤ d j f := nearF_le List.mem_cons_self
        rw [← e1, (hτ j).2, e1] at h1
        rw [if_pos e1]
        split <;> omega
      · rw [if_neg e1]
        by_cases e2 : σ j = r
        · rw [if_pos e2]
          have hq : σ (τ j) ≠ r := good _ (hτ j).1 e1
          have h1 : nearF d (f :: S.filter (· ≠ r)) j ≤ d j (σ (τ j)) :=
            nearF_le (List.mem_cons_of_mem _ (List.mem_filter.mpr ⟨(hσ _).1, decide_eq_true hq⟩))
          have b1 := bO _ (hτ j).1
          have b2 := bS _ (hσ (τ j)).1
          have b3 := bS _ (hσ j).1
          have h2 := M.tri j (σ (τ j)) (τ j) hj b2 b1
          have h3 : d (τ j) (σ (τ j)) ≤ d (τ j) (σ j) := by
            rw [(hσ (τ j)).2]
            exact nearF_le (hσ j).1
          have h4 := M.tri (τ j) (σ j) j b1 b3 hj
          have h5 := M.sym (τ j) j b1 hj
          have h6 := (hτ j).2
          have h7 := (hσ j).2
          omega
        · rw [if_neg e2]
          have h1 : nearF d (f :: S.filter (· ≠ r)) j ≤ d j (σ j) :=
            nearF_le (List.mem_cons_of_mem _ (List.mem_filter.mpr ⟨(hσ _).1, decide_eq_true e2⟩))
          have h7 := (hσ j).2
          omega
    rw [sm_add, sm_add] at hub
    have e : costF n w d S = sm (List.range n) fun j => w j * nearF d S j := rfl
    show 0 ≤ sm (List.range n) (fun j => w j * (if τ j = f then nearF d O j - nearF d S j else 0)) + sm (List.range n) (fun j => w j * (if σ j = r then 2 * nearF d O j else 0))
    omega
end NH
namespace NH
/-! ## Webs: roads, ways, distances -/
abbrev Road := Nat × Nat × Int
def Ed (rs : List Road) (u v : Nat) (l : Int) : Prop := (u, v, l) ∈ rs ∨ (v, u, l) ∈ rs
theorem Ed.symm {rs : List Road} {u v : Nat} {l : Int} (h : Ed rs u v l) : Ed rs v u l := Or.symm h
/-- a way from i to j by at least one road, with the points between -/
inductive Wm (rs : List Road) : Nat → List Nat → Nat → Int → Prop
  | edge {i j : Nat} {l : Int} : Ed rs i j l → Wm rs i [] j l
  | cons {i k j : Nat} {m : List Nat} {l L : Int} : Ed rs i k l → Wm rs k m j L → Wm rs i (k :: m) j (l + L)
/-- a way of any kind -/
def W (rs : List Road) (i j : Nat) (L : Int) : Prop := (i = j ∧ L = 0) ∨ ∃ m, Wm rs i m j L
structure RdOk (n : Nat) (rs : List Road) : Prop where
  lt : ∀ r ∈ rs, r.1 < r.2.1
  bd : ∀ r ∈ rs, r.2.1 < n
  pos : ∀ r ∈ rs, 0 < r.2.2
  nod : (rs.map fun r => (r.1, r.2.1)).Nodup
section
variable {n : Nat} {rs : List Road}
theorem Wm.append {i k j : Nat} {a b : List Nat} {L M : Int} (h : Wm rs i a k L) (g : Wm rs k b j M) : Wm rs i (a ++ k :: b) j (L + M) := by
  induction h with
  | edge e => exact .cons e g
  | cons e _ ih => rw [Int.add_assoc]; exact .cons e (ih g)
theorem Wm.split {i k j : Nat} {a b : List Nat} {L : Int} (h : Wm rs i (a ++ k :: b) j L) : ∃ L1 L2, Wm rs i a k L1 ∧ Wm rs k b j L2 ∧ L = L1 + L2 := by
  induction a generalizing i L with
  | nil =>
    cases h with
    | cons e g => exact ⟨_, _, .edge e, g, rfl⟩
  | cons c a ih =>
    cases h with
    | cons e g =>
      obtain ⟨L1, L2, h1, h2, e2⟩ := ih g
      exact ⟨_, L2, .cons e h1, h2, by rw [e2, Int.add_assoc]⟩
theorem Wm.rev {i j : Nat} {a : List Nat} {L : Int} (h : Wm rs i a j L) : ∃ b, Wm rs j b i L := by
  induction h with
  | edge e => exact ⟨_, .edge e.symm⟩
  | cons e _ ih =>
    obtain ⟨b, g⟩ := ih
    exact ⟨_, by rw [Int.add_comm]; exact g.append (.edge e.symm)⟩
theorem W.trans {i k j : Nat} {L M : Int} (h : W rs i k L) (g : W rs k j M) : W rs i j (L + M) := by
  rcases h with ⟨rfl, rfl⟩ | ⟨a, h⟩
  · rw [Int.zero_add]; exact g
  · rcases g with ⟨rfl, rfl⟩ | ⟨b, g⟩
    · rw [Int.add_zero]; exact .inr ⟨a, h⟩
    · exact .inr ⟨_, h.append g⟩
theorem W.rev {i j : Nat} {L : Int} (h : W rs i j L) : W rs j i L := by
  rcases h with ⟨rfl, rfl⟩ | ⟨a, h⟩
  · exact .inl ⟨rfl, rfl⟩
  · exact .inr h.rev
theorem W.edge {i j : Nat} {l : Int} (h : Ed rs i j l) : W rs i j l := .inr ⟨_, .edge h⟩
theorem Ed.pos (R : RdOk n rs) {i j : Nat} {l : Int} (h : Ed rs i j l) : 0 < l := by
  rcases h with h | h <;> exact R.pos _ h
theorem Ed.bd (R : RdOk n rs) {i j : Nat} {l : Int} (h : Ed rs i j l) : i < n ∧ j < n := by
  rcases h with h | h
  · have a := R.lt _ h; have b := R.bd _ h
    dsimp at a b; omega
  · have a := R.lt _ h; have b := R.bd _ h
    dsimp at a b; omega
theorem Wm.pos (R : RdOk n rs) {i j : Nat} {a : List Nat} {L : Int} (h : Wm rs i a j L) : 0 < L := by
  induction h with
  | edge e => exact e.pos R
  | cons e _ ih => have := e.pos R; omega
theorem W.pos (R : RdOk n rs) {i j : Nat} {L : Int} (h : W rs i j L) : 0 ≤ L := by
  rcases h with ⟨_, rfl⟩ | ⟨a, h⟩
  · exact Int.le_refl _
  · exact Int.le_of_lt (h.pos R)
theorem Wm.mid (R : RdOk n rs) {i j : Nat} {a : List Nat} {L : Int} (h : Wm rs i a j L) : i < n ∧ (∀ x ∈ a, x < n) ∧ j < n := by
  induction h with
  | edge e => exact ⟨(e.bd R).1, fun x hx => absurd hx List.not_mem_nil, (e.bd R).2⟩
  | cons e _ ih =>
    refine ⟨(e.bd R).1, fun x hx => ?_, ih.2.2⟩
    rcases List.mem_cons.mp hx with q | q
    · rw [q]; exact ih.1
    · exact ih.2.1 x q
/-- a way without a point twice -/
theorem Wm.simple (R : RdOk n rs) {i j : Nat} {a : List Nat} {L : Int} (h : Wm rs i a j L) : ∃ b M, Wm rs i b j M ∧ (i :: b).Nodup ∧ M ≤ L := by
  induction h with
  | @edge i j l e => exact ⟨[], _, .edge e, by simp, Int.le_refl _⟩
  | @cons i k j m l L e _ ih =>
    obtain ⟨b, M, g, hn, hl⟩ := ih
    have hp := e.pos R
    by_cases hk : i = k
    · subst hk
      exact ⟨b, M, g, hn, by omega⟩
    · by_cases hi : i ∈ b
      · obtain ⟨b1, b2, rfl⟩ := List.append_of_mem hi
        obtain ⟨L1, L2, g1, g2, e2⟩ := g.split
        have p1 := g1.pos R
        refine ⟨b2, L2, g2, ?_, by omega⟩
        have q := (List.nodup_cons.mp hn).2
        exact (List.nodup_append.mp q).2.1
      · refine ⟨k :: b, _, .cons e g, List.nodup_cons.mpr ⟨fun q => ?_, hn⟩, by omega⟩
        rcases List.mem_cons.mp q with q | q
        · exact hk q
        · exact hi q
theorem nodup_length : ∀ {n : Nat} {l : List Nat}, l.Nodup → (∀ x ∈ l, x < n) → l.length ≤ n
  | 0, l, _, h => by
    cases l with
    | nil => exact Nat.le_refl _
    | cons a l => exact absurd (h a List.mem_cons_self) (Nat.not_lt_zero _)
  | n + 1, l, hn, h => by
    have h1 : (l.filter (· ≠ n)).length ≤ n := nodup_length (hn.filter _) fun x hx => by
      obtain ⟨a, b⟩ := List.mem_filter.mp hx
      have := h x a
      have := of_decide_eq_true b
      omega
    have h2 : l.length ≤ (l.filter (· ≠ n)).length + 1 := by
      by_cases hm : n ∈ l
      · obtain ⟨a, b, rfl⟩ := List.append_of_mem hm
        have q := List.nodup_append.mp hn
        have qb := List.nodup_cons.mp q.2.1
        have na : ∀ x ∈ a, x ≠ n := fun x hx => q.2.2 x hx n List.mem_cons_self
        have nb : ∀ x ∈ b, x ≠ n := fun x hx e => qb.1 (e ▸ hx)
        rw [List.filter_append, List.filter_cons, List.filter_eq_self.mpr fun x hx => decide_eq_true (na x hx), List.filter_eq_self.mpr fun x hx => decide_eq_true (nb x hx)]
        simp
        omega
      · have e0 : l.filter (· ≠ n) = l := List.filter_eq_self.mpr fun x hx => decide_eq_true fun (e : x = n) => hm (e ▸ hx)
        rw [e0]
        omega
    omega
/-- a table that holds the distances -/
structure Exact (n : Nat) (rs : List Road) (D : Nat → Nat → Int) : Prop where
  is : ∀ i j, i < n → j < n → W rs i j (D i j)
  le : ∀ i j L, i < n → j < n → W rs i j L → D i j ≤ L
theorem Exact.eq {D E : Nat → Nat → Int} (a : Exact n rs D) (b : Exact n rs E) {i j : Nat} (hi : i < n) (hj : j < n) : D i j = E i j := by
  have h1 := a.le i j _ hi hj (b.is i j hi hj)
  have h2 := b.le i j _ hi hj (a.is i j hi hj)
  omega
theorem Exact.metric (R : RdOk n rs) {D : Nat → Nat → Int} (a : Exact n rs D) : Metric n D where
  pos := fun i j hi hj => (a.is i j hi hj).pos R
  sym := fun i j hi hj => by
    have h1 := a.le i j _ hi hj (a.is j i hj hi).rev
    have h2 := a.le j i _ hj hi (a.is i j hi hj).rev
    omega
  tri := fun i j k hi hj hk => a.le i j _ hi hj ((a.is i k hi hk).trans (a.is k j hk hj))
/-- a table whose entries are ways, or great -/
structure Snd (n : Nat) (rs : List Road) (F : Int) (D : Nat → Nat → Int) : Prop where
  pos : ∀ i j, i < n → j < n → 0 ≤ D i j
  is : ∀ i j, i < n → j < n → F ≤ D i j ∨ W rs i j (D i j)
theorem Snd.exact {F : Int} {D : Nat → Nat → Int} (s : Snd n rs F D) (le : ∀ i j L, i < n → j < n → W rs i j L → D i j ≤ L) (c : ∀ i j, i < n → j < n → ∃ L, W rs i j L ∧ L < F) : Exact n rs D where
  is := fun i j hi hj => by
    rcases s.is i j hi hj with h | h
    · obtain ⟨L, h1, h2⟩ := c i j hi hj
      have := le i j L hi hj h1
      omega
    · exact h
  le := le
end
/-! ### tables as lists of lists -/
def getM (R : List (List Int)) (i j : Nat) : Int := (R.getD i []).getD j 0
def setM (R : List (List Int)) (i j : Nat) (v : Int) : List (List Int) := R.set i ((R.getD i []).set j v)
def Sq (n : Nat) (R : List (List Int)) : Prop := R.length = n ∧ ∀ r ∈ R, r.length = n
theorem Sq.row {n : Nat} {R : List (List Int)} (h : Sq n R) {i : Nat} (hi : i < n) : (R.getD i []).length = n := by
  have hi' : i < R.length := by rw [h.1]; exact hi
  rw [List.getD_eq_getElem?_getD, List.getElem?_eq_getElem hi']
  exact h.2 _ (List.getElem_mem hi')
theorem Sq.set {n : Nat} {R : List (List Int)} (h : Sq n R) {i j : Nat} (hi : i < n) (v : Int) : Sq n (setM R i j v) := by
  refine ⟨by rw [setM, List.length_set]; exact h.1, fun r hr => ?_⟩
  rcases List.mem_or_eq_of_mem_set hr with q | q
  · exact h.2 r q
  · rw [q, List.length_set]; exact h.row hi
theorem getM_set {n : Nat} {R : List (List Int)} (h : Sq n R) {i j a b : Nat} (hi : i < n) (hj : j < n) (v : Int) : getM (setM R i j v) a b = if i = a ∧ j = b then v else getM R a b := by
  have hi' : i < R.length := by rw [h.1]; exact hi
  have hj' : j < (R.getD i []).length := by rw [h.row hi]; exact hj
  unfold getM setM
  have e0 : (R.set i ((R.getD i []).set j v)).getD a [] = ((R.set i ((R.getD i []).set j v))[a]?).getD [] := List.getD_eq_getElem?_getD
  rw [e0, List.getElem?_set]
  by_cases e : i = a
  · subst e
    rw [if_pos rfl, if_pos hi', Option.getD_some, List.getD_eq_getElem?_getD, List.getElem?_set]
    by_cases e2 : j = b
    · subst e2
      rw [if_pos rfl, if_pos hj', if_pos ⟨rfl, rfl⟩, Option.getD_some]
    · rw [if_neg e2, if_neg (fun q => e2 q.2), List.getD_eq_getElem?_getD, ← List.getD_eq_getElem?_getD (l := R[i]?.getD [])]
  · rw [if_neg e, if_neg (fun q => e q.1), ← List.getD_eq_getElem?_getD]
theorem Sq.ext {n : Nat} {R S : List (List Int)} (h : Sq n R) (g : Sq n S) (e : ∀ i j, i < n → j < n → getM R i j = getM S i j) : R = S := by
  apply List.ext_getElem (by rw [h.1, g.1])
  intro i h1 h2
  have hi : i < n := by rw [← h.1]; exact h1
  have e1 : R.getD i [] = R[i] := by rw [List.getD_eq_getElem?_getD, List.getElem?_eq_getElem h1]; rfl
  have e2 : S.getD i [] = S[i] := by rw [List.getD_eq_getElem?_getD, List.getElem?_eq_getElem h2]; rfl
  have l1 := h.row hi
  have l2 := g.row hi
  rw [e1] at l1
  rw [e2] at l2
  apply List.ext_getElem (by rw [l1, l2])
  intro j h3 h4
  have hj : j < n := by rw [← l1]; exact h3
  have q := e i j hi hj
  unfold getM at q
  rw [e1, e2, List.getD_eq_getElem?_getD, List.getD_eq_getElem?_getD, List.getElem?_eq_getElem h3, List.getElem?_eq_getElem h4] at q
  exact q
/-- min(a, b) as Python takes it -/
def mn (a b : Int) : Int := if b < a then b else a
theorem mn_le1 (a b : Int) : mn a b ≤ a := by unfold mn; split <;> omega
theorem mn_le2 (a b : Int) : mn a b ≤ b := by unfold mn; split <;> omega
theorem mn_is (a b : Int) : mn a b = a ∨ mn a b = b := by unfold mn; split <;> simp
theorem foldl_range {σ : Type} (P : Nat → σ → Prop) (f : σ → Nat → σ) {n : Nat} {s : σ} (h0 : P 0 s) (hs : ∀ i s, i < n → P i s → P (i + 1) (f s i)) : P n ((List.range n).foldl f s) := by
  have key : ∀ m, m ≤ n → P m ((List.range m).foldl f s) := by
    intro m
    induction m with
    | zero => intro _; exact h0
    | succ m ih =>
      intro hm
      rw [List.range_succ, List.foldl_append]
      exact hs m _ (by omega) (ih (by omega))
  exact key n (Nat.le_refl _)
theorem foldl_list {σ α : Type} (P : List α → σ → Prop) (f : σ → α → σ) {l : List α} {s : σ} (h0 : P [] s) (hs : ∀ p a s, (∃ q, l = p ++ a :: q) → P p s → P (p ++ [a]) (f s a)) : P l (l.foldl f s) := by
  have key : ∀ (q p : List α) (s : σ), l = p ++ q → P p s → P l (q.foldl f s) := by
    intro q
    induction q with
    | nil =>
      intro p s e h
      rw [List.append_nil] at e
      rw [e]; exact h
    | cons a q ih =>
      intro p s e h
      exact ih (p ++ [a]) (f s a) (by rw [e]; simp) (hs p a s ⟨q, e⟩ h)
  exact key l [] s rfl h0
/-! ### the program's table -/
def sumLen (rs : List Road) : Int := (rs.map fun r => r.2.2).sum
def rows0 (n : Nat) (far : Int) : List (List Int) := (List.range n).map fun i => (List.range n).map fun j => if i = j then 0 else far
def putRoad (R : List (List Int)) (r : Road) : List (List Int) := setM (setM R r.1 r.2.1 r.2.2) r.2.1 r.1 r.2.2
def fwJ (k i : Nat) (R : List (List Int)) (j : Nat) : List (List Int) := setM R i j (mn (getM R i j) (getM R i k + getM R k j))
def fwI (n k : Nat) (R : List (List Int)) (i : Nat) : List (List Int) := (List.range n).foldl (fwJ k i) R
def fwK (n : Nat) (R : List (List Int)) (k : Nat) : List (List Int) := (List.range n).foldl (fwI n k) R
def table (n : Nat) (rs : List Road) : List (List Int) := (List.range n).foldl (fwK n) (rs.foldl putRoad (rows0 n (1 + sumLen rs)))
/-! ### the law's table -/
def bfI (r : Road) (R : List (List Int)) (i : Nat) : List (List Int) :=
  let R1 := setM R i r.2.1 (mn (getM R i r.2.1) (getM R i r.1 + r.2.2))
  setM R1 i r.1 (mn (getM R1 i r.1) (getM R1 i r.2.1 + r.2.2))
def bfR (n : Nat) (R : List (List Int)) (r : Road) : List (List Int) := (List.range n).foldl (bfI r) R
def bfT (n : Nat) (rs : List Road) (R : List (List Int)) (_t : Nat) : List (List Int) := rs.foldl (bfR n) R
def lawRows (n : Nat) (rs : List Road) : List (List Int) := (List.range n).foldl (bfT n rs) (rows0 n 1000000)

theorem rows0_sq (n : Nat) (far : Int) : Sq n (rows0 n far) := by
  refine ⟨by simp [rows0], fun r hr => ?_⟩
  obtain ⟨i, _, rfl⟩ := List.mem_map.mp hr
  simp
theorem rows0_get {n : Nat} {far : Int} {i j : Nat} (hi : i < n) (hj : j < n) : getM (rows0 n far) i j = if i = j then 0 else far := by
  unfold getM rows0
  rw [List.getD_eq_getElem?_getD, List.getD_eq_getElem?_getD, List.getElem?_map, List.getElem?_range hi]
  simp [hj]
section
variable {n : Nat} {rs : List Road}
theorem rows0_snd {far : Int} (hf : 0 ≤ far) : Snd n rs far (getM (rows0 n far)) where
  pos := fun i j hi hj => by rw [rows0_get hi hj]; split <;> omega
  is := fun i j hi hj => by
    rw [rows0_get hi hj]
    by_cases e : i = j
    · rw [if_pos e]; exact .inr (.inl ⟨e, rfl⟩)
    · rw [if_neg e]; exact .inl (Int.le_refl _)
theorem Snd.put {F : Int} {R : List (List Int)} (s : Snd n rs F (getM R)) (h : Sq n R) {i j : Nat} {v : Int} (hi : i < n) (hj : j < n) (hp : 0 ≤ v) (hv : F ≤ v ∨ W rs i j v) : Snd n rs F (getM (setM R i j v)) where
  pos := fun a b ha hb => by
    rw [getM_set h hi hj]
    split
    · exact hp
    · exact s.pos a b ha hb
  is := fun a b ha hb => by
    rw [getM_set h hi hj]
    by_cases e : i = a ∧ j = b
    · obtain ⟨rfl, rfl⟩ := e
      rw [if_pos ⟨rfl, rfl⟩]; exact hv
    · rw [if_neg e]; exact s.is a b ha hb
theorem Snd.sum {F : Int} {D : Nat → Nat → Int} (s : Snd n rs F D) {i k j : Nat} (hi : i < n) (hk : k < n) (hj : j < n) : F ≤ D i k + D k j ∨ W rs i j (D i k + D k j) := by
  have p1 := s.pos i k hi hk
  have p2 := s.pos k j hk hj
  rcases s.is i k hi hk with h | h
  · exact .inl (by omega)
  · rcases s.is k j hk hj with g | g
    · exact .inl (by omega)
    · exact .inr (h.trans g)
theorem Snd.road {F : Int} {D : Nat → Nat → Int} (s : Snd n rs F D) (R : RdOk n rs) {i k j : Nat} {l : Int} (hi : i < n) (e : Ed rs k j l) : F ≤ D i k + l ∨ W rs i j (D i k + l) := by
  have p1 := e.pos R
  rcases s.is i k hi (e.bd R).1 with h | h
  · exact .inl (by omega)
  · exact .inr (h.trans (.edge e))
/-- at most, place by place -/
def Le (n : Nat) (R S : List (List Int)) : Prop := ∀ i j, i < n → j < n → getM R i j ≤ getM S i j
theorem Le.refl (R : List (List Int)) : Le n R R := fun _ _ _ _ => Int.le_refl _
theorem Le.trans {R S T : List (List Int)} (a : Le n R S) (b : Le n S T) : Le n R T := fun i j hi hj => Int.le_trans (a i j hi hj) (b i j hi hj)
/-- one store of a lesser value -/
theorem put_le {R : List (List Int)} (h : Sq n R) {i j : Nat} {u : Int} (hi : i < n) (hj : j < n) : Le n (setM R i j (mn (getM R i j) u)) R := fun a b _ _ => by
  rw [getM_set h hi hj]
  by_cases e : i = a ∧ j = b
  · obtain ⟨rfl, rfl⟩ := e
    rw [if_pos ⟨rfl, rfl⟩]; exact mn_le1 _ _
  · rw [if_neg e]; exact Int.le_refl _
theorem put_at {R : List (List Int)} (h : Sq n R) {i j : Nat} {u : Int} (hi : i < n) (hj : j < n) : getM (setM R i j (mn (getM R i j) u)) i j ≤ u := by
  rw [getM_set h hi hj, if_pos ⟨rfl, rfl⟩]
  exact mn_le2 _ _
theorem put_snd {F : Int} {R : List (List Int)} (s : Snd n rs F (getM R)) (h : Sq n R) {i j : Nat} {u : Int} (hi : i < n) (hj : j < n) (hp : 0 ≤ u) (hu : F ≤ u ∨ W rs i j u) : Snd n rs F (getM (setM R i j (mn (getM R i j) u))) := by
  rcases mn_is (getM R i j) u with e | e
  · rw [e]; exact s.put h hi hj (s.pos i j hi hj) (s.is i j hi hj)
  · rw [e]; exact s.put h hi hj hp hu
structure Fw (n : Nat) (rs : List Road) (F : Int) (R0 R : List (List Int)) : Prop where
  sq : Sq n R
  snd : Snd n rs F (getM R)
  le : Le n R R0
/-- one phase of the program's table -/
theorem fwK_ok {F : Int} {R0 : List (List Int)} {k : Nat} (hk : k < n) (q0 : Sq n R0) (s0 : Snd n rs F (getM R0)) :
    Fw n rs F R0 (fwK n R0 k) ∧ ∀ i j, i < n → j < n → getM (fwK n R0 k) i j ≤ getM R0 i k + getM R0 k j := by
  have h := foldl_range (fun m R => Fw n rs F R0 R ∧ ∀ i j, i < m → j < n → getM R i j ≤ getM R0 i k + getM R0 k j) (fwI n k) (n := n) (s := R0) ⟨⟨q0, s0, Le.refl _⟩, fun i j hi => absurd hi (Nat.not_lt_zero _)⟩ ?_
  · exact h
  · rintro i R hi ⟨f, hd⟩
    have h2 := foldl_range (fun m R => Fw n rs F R0 R ∧ (∀ a j, a < i → j < n → getM R a j ≤ getM R0 a k + getM R0 k j) ∧ ∀ j, j < m → getM R i j ≤ getM R0 i k + getM R0 k j) (fwJ k i) (n := n) (s := R) ⟨f, hd, fun j hj => absurd hj (Nat.not_lt_zero _)⟩ ?_
    · refine ⟨h2.1, fun a j ha hj => ?_⟩
      by_cases e : a = i
      · subst e; exact h2.2.2 j hj
      · exact h2.2.1 a j (by omega) hj
    · rintro j S hj ⟨g, g1, g2⟩
      have ple : Le n (fwJ k i S j) S := put_le g.sq hi hj
      have sum_le : getM S i k + getM S k j ≤ getM R0 i k + getM R0 k j := Int.add_le_add (g.le i k hi hk) (g.le k j hk hj)
      refine ⟨⟨g.sq.set hi _, put_snd g.snd g.sq hi hj (Int.add_nonneg (g.snd.pos i k hi hk) (g.snd.pos k j hk hj)) (g.snd.sum hi hk hj), ple.trans g.le⟩, fun a b ha hb => ?_, fun b hb => ?_⟩
      · exact Int.le_trans (ple a b (by omega) hb) (g1 a b ha hb)
      · by_cases e : b = j
        · subst e
          exact Int.le_trans (put_at g.sq hi hj) sum_le
        · exact Int.le_trans (ple i b hi (by omega)) (g2 b (by omega))
theorem table0_ok (R : RdOk n rs) {F : Int} (hF : 0 ≤ F) : Sq n (rs.foldl putRoad (rows0 n F)) ∧ Snd n rs F (getM (rs.foldl putRoad (rows0 n F))) ∧ (∀ i, i < n → getM (rs.foldl putRoad (rows0 n F)) i i ≤ 0) ∧
    ∀ i j l, Ed rs i j l → getM (rs.foldl putRoad (rows0 n F)) i j ≤ l := by
  have h := foldl_list (fun p S => Sq n S ∧ Snd n rs F (getM S) ∧ (∀ i, i < n → getM S i i ≤ 0) ∧ ∀ i j l, Ed p i j l → getM S i j ≤ l) putRoad (l := rs) (s := rows0 n F)
    ⟨rows0_sq n F, rows0_snd hF, fun i hi => by rw [rows0_get hi hi, if_pos rfl]; exact Int.le_refl _, fun i j l e => by rcases e with e | e <;> exact absurd e List.not_mem_nil⟩ ?_
  · exact h
  · rintro p ⟨a, b, l⟩ S ⟨q, hq⟩ ⟨h1, h2, h3, h4⟩
    have hm : (a, b, l) ∈ rs := by rw [hq]; simp
    have hab : a < b := R.lt _ hm
    have hb : b < n := R.bd _ hm
    have hl : 0 < l := R.pos _ hm
    have hl0 : 0 ≤ l := Int.le_of_lt hl
    have ha : a < n := by omega
    have nod := R.nod
    rw [hq, List.map_append, List.map_cons] at nod
    have np : ∀ c d m, (c, d, m) ∈ p → ¬ (c = a ∧ d = b) := fun c d m hp e => by
      have q := (List.nodup_append.mp nod).2.2 (c, d) (List.mem_map.mpr ⟨(c, d, m), hp, rfl⟩) (a, b) List.mem_cons_self
      exact q (by rw [e.1, e.2])
    have s1 : Sq n (setM S a b l) := h1.set ha _
    have g : ∀ c d, getM (putRoad S (a, b, l)) c d = if b = c ∧ a = d then l else if a = c ∧ b = d then l else getM S c d := fun c d => by
      show getM (setM (setM S a b l) b a l) c d = _
      rw [getM_set s1 hb ha, getM_set h1 ha hb]
    refine ⟨s1.set hb _, (h2.put h1 ha hb hl0 (.inr (.edge (.inl hm)))).put s1 hb ha hl0 (.inr (.edge (.inr hm))), fun i hi => ?_, fun c d m e => ?_⟩
    · rw [g, if_neg (by omega), if_neg (by omega)]
      exact h3 i hi
    · rw [g]
      have key : ∀ c d m, (c, d, m) ∈ p ++ [(a, b, l)] → (c = a ∧ d = b ∧ m = l) ∨ ((c, d, m) ∈ p ∧ ¬ (c = a ∧ d = b) ∧ c < d) := fun c d m hh => by
        rcases List.mem_append.mp hh with hh | hh
        · have hr : (c, d, m) ∈ rs := by rw [hq]; exact List.mem_append_left _ hh
          exact .inr ⟨hh, np c d m hh, R.lt _ hr⟩
        · rcases List.mem_cons.mp hh with q | q
          · cases q; exact .inl ⟨rfl, rfl, rfl⟩
          · exact absurd q List.not_mem_nil
      rcases e with e | e
      · rcases key c d m e with ⟨rfl, rfl, rfl⟩ | ⟨hp, hne, hlt⟩
        · rw [if_neg (by omega), if_pos ⟨rfl, rfl⟩]; exact Int.le_refl _
        · rw [if_neg (by omega), if_neg (by omega)]
          exact h4 c d m (.inl hp)
      · rcases key d c m e with ⟨rfl, rfl, rfl⟩ | ⟨hp, hne, hlt⟩
        · rw [if_pos ⟨rfl, rfl⟩]; exact Int.le_refl _
        · rw [if_neg (by omega), if_neg (by omega)]
          exact h4 c d m (.inr hp)
theorem table_exact (R : RdOk n rs) (hs : 0 ≤ sumLen rs) (c : ∀ i j, i < n → j < n → ∃ L, W rs i j L ∧ L ≤ sumLen rs) : Sq n (table n rs) ∧ Exact n rs (getM (table n rs)) := by
  obtain ⟨t1, t2, t3, t4⟩ := table0_ok R (F := 1 + sumLen rs) (by omega)
  have h := foldl_range (fun k S => Sq n S ∧ Snd n rs (1 + sumLen rs) (getM S) ∧ (∀ i, i < n → getM S i i ≤ 0) ∧ ∀ i m j L, Wm rs i m j L → m.Nodup → (∀ x ∈ m, x < k) → getM S i j ≤ L) (fwK n) (n := n)
    ⟨t1, t2, t3, fun i m j L hw _ hm => by
      cases hw with
      | edge e => exact t4 i j _ e
      | cons e g => exact absurd (hm _ List.mem_cons_self) (Nat.not_lt_zero _)⟩ ?_
  · refine ⟨h.1, h.2.1.exact (fun i j L hi hj hw => ?_) fun i j hi hj => ?_⟩
    · rcases hw with ⟨rfl, rfl⟩ | ⟨m, hw⟩
      · exact h.2.2.1 i hi
      · obtain ⟨b, M, g, hn, hl⟩ := hw.simple R
        exact Int.le_trans (h.2.2.2 i b j M g (List.nodup_cons.mp hn).2 (g.mid R).2.1) hl
    · obtain ⟨L, h1, h2⟩ := c i j hi hj
      exact ⟨L, h1, by omega⟩
  · rintro k S hk ⟨s1, s2, s3, s4⟩
    obtain ⟨f, hd⟩ := fwK_ok (rs := rs) hk s1 s2
    refine ⟨f.sq, f.snd, fun i hi => Int.le_trans (f.le i i hi hi) (s3 i hi), fun i m j L hw hn hm => ?_⟩
    obtain ⟨hi, _, hj⟩ := hw.mid R
    by_cases hkm : k ∈ m
    · obtain ⟨a, b, rfl⟩ := List.append_of_mem hkm
      obtain ⟨L1, L2, w1, w2, e⟩ := hw.split
      obtain ⟨na, nkb, nab⟩ := List.nodup_append.mp hn
      obtain ⟨nk, nb⟩ := List.nodup_cons.mp nkb
      have e1 := s4 i a k L1 w1 na fun x hx => by
        have := hm x (List.mem_append_left _ hx)
        have : x ≠ k := nab x hx k List.mem_cons_self
        omega
      have e2 := s4 k b j L2 w2 nb fun x hx => by
        have := hm x (List.mem_append_right _ (List.mem_cons_of_mem _ hx))
        have : x ≠ k := fun q => nk (q ▸ hx)
        omega
      have := hd i j hi hj
      omega
    · refine Int.le_trans (f.le i j hi hj) (s4 i m j L hw hn fun x hx => ?_)
      have := hm x hx
      have : x ≠ k := fun q => hkm (q ▸ hx)
      omega
/-- one road of one round of the law's table -/
theorem bfR_ok (R : RdOk n rs) {F : Int} {R0 : List (List Int)} {r : Road} (hr : r ∈ rs) (q0 : Sq n R0) (s0 : Snd n rs F (getM R0)) :
    Fw n rs F R0 (bfR n R0 r) ∧ ∀ i, i < n → getM (bfR n R0 r) i r.2.1 ≤ getM R0 i r.1 + r.2.2 ∧ getM (bfR n R0 r) i r.1 ≤ getM R0 i r.2.1 + r.2.2 := by
  have hab := R.lt _ hr
  have hb := R.bd _ hr
  have hl := R.pos _ hr
  have ha : r.1 < n := by omega
  have h := foldl_range (fun m S => Fw n rs F R0 S ∧ ∀ i, i < m → getM S i r.2.1 ≤ getM R0 i r.1 + r.2.2 ∧ getM S i r.1 ≤ getM R0 i r.2.1 + r.2.2) (bfI r) (n := n) (s := R0) ⟨⟨q0, s0, Le.refl _⟩, fun i hi => absurd hi (Nat.not_lt_zero _)⟩ ?_
  · exact h
  · rintro i S hi ⟨f, hd⟩
    have ed : Ed rs r.1 r.2.1 r.2.2 := .inl hr
    have l1 : Le n (setM S i r.2.1 (mn (getM S i r.2.1) (getM S i r.1 + r.2.2))) S := put_le f.sq hi hb
    have q1 : Sq n (setM S i r.2.1 (mn (getM S i r.2.1) (getM S i r.1 + r.2.2))) := f.sq.set hi _
    have d1 : Snd n rs F (getM (setM S i r.2.1 (mn (getM S i r.2.1) (getM S i r.1 + r.2.2)))) :=
      put_snd f.snd f.sq hi hb (by have := f.snd.pos i r.1 hi ha; omega) (f.snd.road R hi ed)
    have a1 : getM (setM S i r.2.1 (mn (getM S i r.2.1) (getM S i r.1 + r.2.2))) i r.2.1 ≤ getM S i r.1 + r.2.2 := put_at f.sq hi hb
    have l2 : Le n (bfI r S i) (setM S i r.2.1 (mn (getM S i r.2.1) (getM S i r.1 + r.2.2))) := put_le q1 hi ha
    have d2 : Snd n rs F (getM (bfI r S i)) := put_snd d1 q1 hi ha (by have := d1.pos i r.2.1 hi hb; omega) (d1.road R hi ed.symm)
    have a2 : getM (bfI r S i) i r.1 ≤ getM (setM S i r.2.1 (mn (getM S i r.2.1) (getM S i r.1 + r.2.2))) i r.2.1 + r.2.2 := put_at q1 hi ha
    refine ⟨⟨q1.set hi _, d2, l2.trans (l1.trans f.le)⟩, fun c hc => ?_⟩
    by_cases e : c = i
    · subst e
      have z1 := f.le c r.1 hi ha
      have z2 := f.le c r.2.1 hi hb
      have z3 := l2 c r.2.1 hi hb
      have z4 := l1 c r.2.1 hi hb
      omega
    · have hc' : c < n := by omega
      obtain ⟨y1, y2⟩ := hd c (by omega)
      exact ⟨Int.le_trans ((l2.trans l1) c r.2.1 hc' hb) y1, Int.le_trans ((l2.trans l1) c r.1 hc' ha) y2⟩
theorem bfT_ok (R : RdOk n rs) {F : Int} {R0 : List (List Int)} (t : Nat) (q0 : Sq n R0) (s0 : Snd n rs F (getM R0)) :
    Fw n rs F R0 (bfT n rs R0 t) ∧ ∀ i j k l, i < n → Ed rs k j l → getM (bfT n rs R0 t) i j ≤ getM R0 i k + l := by
  have h := foldl_list (fun p S => Fw n rs F R0 S ∧ ∀ i j k l, i < n → Ed p k j l → getM S i j ≤ getM R0 i k + l) (bfR n) (l := rs) (s := R0)
    ⟨⟨q0, s0, Le.refl _⟩, fun i j k l _ e => by rcases e with e | e <;> exact absurd e List.not_mem_nil⟩ ?_
  · exact h
  · rintro p ⟨a, b, l⟩ S ⟨q, hq⟩ ⟨f, hd⟩
    have hm : (a, b, l) ∈ rs := by rw [hq]; simp
    have hab : a < b := R.lt _ hm
    have hb : b < n := R.bd _ hm
    obtain ⟨g, gd⟩ := bfR_ok R hm f.sq f.snd
    refine ⟨⟨g.sq, g.snd, g.le.trans f.le⟩, fun i j k m hi e => ?_⟩
    have old : Ed p k j m → getM (bfR n S (a, b, l)) i j ≤ getM R0 i k + m := fun e => by
      have e' : Ed rs k j m := by
        rcases e with e | e
        · exact .inl (by rw [hq]; exact List.mem_append_left _ e)
        · exact .inr (by rw [hq]; exact List.mem_append_left _ e)
      exact Int.le_trans (g.le i j hi (e'.bd R).2) (hd i j k m hi e)
    have nw := gd i hi
    dsimp only at nw
    rcases e with e | e
    · rcases List.mem_append.mp e with e | e
      · exact old (.inl e)
      · rcases List.mem_cons.mp e with e | e
        · cases e
          have := f.le i a hi (by omega)
          omega
        · exact absurd e List.not_mem_nil
    · rcases List.mem_append.mp e with e | e
      · exact old (.inr e)
      · rcases List.mem_cons.mp e with e | e
        · cases e
          have := f.le i b hi hb
          omega
        · exact absurd e List.not_mem_nil
theorem lawRows_exact (R : RdOk n rs) (c : ∀ i j, i < n → j < n → ∃ L, W rs i j L ∧ L < 1000000) : Sq n (lawRows n rs) ∧ Exact n rs (getM (lawRows n rs)) := by
  have h := foldl_range (fun t S => Sq n S ∧ Snd n rs 1000000 (getM S) ∧ (∀ i, i < n → getM S i i ≤ 0) ∧ ∀ i m j L, Wm rs i m j L → m.length < t → getM S i j ≤ L) (bfT n rs) (n := n)
    ⟨rows0_sq n 1000000, rows0_snd (by decide), fun i hi => by rw [rows0_get hi hi, if_pos rfl]; exact Int.le_refl _, fun i m j L _ hm => absurd hm (Nat.not_lt_zero _)⟩ ?_
  · refine ⟨h.1, h.2.1.exact (fun i j L hi hj hw => ?_) c⟩
    rcases hw with ⟨rfl, rfl⟩ | ⟨m, hw⟩
    · exact h.2.2.1 i hi
    · obtain ⟨b, M, g, hn, hl⟩ := hw.simple R
      have len : (i :: b).length ≤ n := nodup_length hn fun x hx => by
        rcases List.mem_cons.mp hx with q | q
        · rw [q]; exact hi
        · exact (g.mid R).2.1 x q
      rw [List.length_cons] at len
      exact Int.le_trans (h.2.2.2 i b j M g (by omega)) hl
  · rintro t S ht ⟨s1, s2, s3, s4⟩
    obtain ⟨f, hd⟩ := bfT_ok R t s1 s2
    refine ⟨f.sq, f.snd, fun i hi => Int.le_trans (f.le i i hi hi) (s3 i hi), fun i m j L hw hm => ?_⟩
    obtain ⟨hi, _, hj⟩ := hw.mid R
    by_cases e : m = []
    · subst e
      cases hw with
      | edge e =>
        have := hd i j i L hi e
        have := s3 i hi
        omega
    · have em : m = m.dropLast ++ m.getLast e :: [] := (List.dropLast_concat_getLast e).symm
      have hl : m.dropLast.length < t := by
        rw [List.length_dropLast]
        have := List.length_pos_iff.mpr e
        omega
      rw [em] at hw
      obtain ⟨L1, L2, w1, w2, e2⟩ := hw.split
      have z := s4 i _ _ L1 w1 hl
      cases w2 with
      | edge e3 =>
        have := hd i j _ L2 hi e3
        omega
end
end NH
namespace NH
open PySem L2
/-! ### the text by places -/
def topS (i : Nat) : Stmt := PySem.Challenge.pw_nearhouses_k49_whole_settled_houses.main.body.getD i (.Pass ⟨0, 0, 0, 0⟩)
abbrev s_is_in : Stmt := topS 6
abbrev s_is_road : Stmt := topS 12
abbrev s_is_weights : Stmt := topS 13
abbrev s_need_web : Stmt := topS 14
abbrev s_parts_in : Stmt := topS 15
abbrev s_table_of : Stmt := topS 16
abbrev s_need_houses : Stmt := topS 18
abbrev s_near_in : Stmt := topS 19
abbrev s_need_both : Stmt := topS 20
abbrev s_sum_in : Stmt := topS 21
abbrev s_members : Stmt := topS 23
abbrev s_by_size : Stmt := topS 24
abbrev s_need_count : Stmt := topS 26
abbrev s_choices : Stmt := topS 28
abbrev s_need_number : Stmt := topS 29
abbrev s_best_houses : Stmt := topS 30
abbrev s_first_exchange : Stmt := topS 32
abbrev s_is_settled : Stmt := topS 33
abbrev s_settled : Stmt := topS 34
abbrev s_grown_houses : Stmt := topS 35
abbrev s_law_taken : Stmt := topS 37
abbrev s_law_pick : Stmt := topS 38
abbrev s_law_order : Stmt := topS 39
abbrev s_law_web : Stmt := topS 40
abbrev s_law_rows : Stmt := topS 41
abbrev s_law_houses : Stmt := topS 42
abbrev s_law_near : Stmt := topS 43
abbrev s_law_sum_by : Stmt := topS 44
abbrev s_law_alike : Stmt := topS 45
abbrev s_law : Stmt := topS 46
def spLaw (K : PySem.W.Frag) : Sp := fun vs H Q _ => ∃ (a : Addr) (ns : List Int), vs = [.ref a] ∧ SqL K H a (ns.map V.int) ∧ ns.length ≤ 63 ∧ ∀ H', Q (.bl true) H'
structure Txt (K : PySem.W.Frag) (mg : Str → Option Value) : Prop where
  b_isinstance : mg "isinstance" = none
  b_int : mg "int" = none
  b_bool : mg "bool" = none
  b_tuple : mg "tuple" = none
  b_list : mg "list" = none
  b_len : mg "len" = none
  b_sum : mg "sum" = none
  b_enumerate : mg "enumerate" = none
  b_range : mg "range" = none
  b_sorted : mg "sorted" = none
  b_set : mg "set" = none
  b_min : mg "min" = none
  b_zip : mg "zip" = none
  b_str : mg "str" = none
  c_MOST_POINTS : ∃ t, mg "MOST_POINTS" = some (.int 8 t)
  c_MOST_ROADS : ∃ t, mg "MOST_ROADS" = some (.int 14 t)
  c_MOST_WEIGHT : ∃ t, mg "MOST_WEIGHT" = some (.int 100 t)
  c_MOST_LENGTH : ∃ t, mg "MOST_LENGTH" = some (.int 100 t)
structure Fns (K : PySem.W.Frag) (mg : Str → Option Value) : Prop where
  f_is_in : ∃ (f : Addr) (fd : FuncData), mg "is_in" = some (.ref f) ∧ Fun K "is_in" "is_in" s_is_in f fd ∧ Binds K fd ["value", "least", "most"] []
  f_is_road : ∃ (f : Addr) (fd : FuncData), mg "is_road" = some (.ref f) ∧ Fun K "is_road" "is_road" s_is_road f fd ∧ Binds K fd ["value", "count"] []
  f_is_weights : ∃ (f : Addr) (fd : FuncData), mg "is_weights" = some (.ref f) ∧ Fun K "is_weights" "is_weights" s_is_weights f fd ∧ Binds K fd ["value"] []
  f_need_web : ∃ (f : Addr) (fd : FuncData), mg "need_web" = some (.ref f) ∧ Fun K "need_web" "need_web" s_need_web f fd ∧ Binds K fd ["web"] []
  f_parts_in : ∃ (f : Addr) (fd : FuncData), mg "parts_in" = some (.ref f) ∧ Fun K "parts_in" "parts_in" s_parts_in f fd ∧ Binds K fd ["points", "roads"] []
  f_table_of : ∃ (f : Addr) (fd : FuncData), mg "table_of" = some (.ref f) ∧ Fun K "table_of" "table_of" s_table_of f fd ∧ Binds K fd ["web"] []
  f_need_houses : ∃ (f : Addr) (fd : FuncData), mg "need_houses" = some (.ref f) ∧ Fun K "need_houses" "need_houses" s_need_houses f fd ∧ Binds K fd ["web", "houses"] []
  f_near_in : ∃ (f : Addr) (fd : FuncData), mg "near_in" = some (.ref f) ∧ Fun K "near_in" "near_in" s_near_in f fd ∧ Binds K fd ["rows", "houses"] []
  f_need_both : ∃ (f : Addr) (fd : FuncData), mg "need_both" = some (.ref f) ∧ Fun K "need_both" "need_both" s_need_both f fd ∧ Binds K fd ["web", "houses"] []
  f_sum_in : ∃ (f : Addr) (fd : FuncData), mg "sum_in" = some (.ref f) ∧ Fun K "sum_in" "sum_in" s_sum_in f fd ∧ Binds K fd ["weights", "rows", "houses"] []
  f_members : ∃ (f : Addr) (fd : FuncData), mg "members" = some (.ref f) ∧ Fun K "members" "members" s_members f fd ∧ Binds K fd ["number", "count"] []
  f_by_size : ∃ (f : Addr) (fd : FuncData), mg "by_size" = some (.ref f) ∧ Fun K "by_size" "by_size" s_by_size f fd ∧ Binds K fd ["count"] []
  f_need_count : ∃ (f : Addr) (fd : FuncData), mg "need_count" = some (.ref f) ∧ Fun K "need_count" "need_count" s_need_count f fd ∧ Binds K fd ["web", "count"] []
  f_choices : ∃ (f : Addr) (fd : FuncData), mg "choices" = some (.ref f) ∧ Fun K "choices" "choices" s_choices f fd ∧ Binds K fd ["web", "count"] []
  f_need_number : ∃ (f : Addr) (fd : FuncData), mg "need_number" = some (.ref f) ∧ Fun K "need_number" "need_number" s_need_number f fd ∧ Binds K fd ["web", "count"] []
  f_best_houses : ∃ (f : Addr) (fd : FuncData), mg "best_houses" = some (.ref f) ∧ Fun K "best_houses" "best_houses" s_best_houses f fd ∧ Binds K fd ["web", "count"] []
  f_first_exchange : ∃ (f : Addr) (fd : FuncData), mg "first_exchange" = some (.ref f) ∧ Fun K "first_exchange" "first_exchange" s_first_exchange f fd ∧ Binds K fd ["web", "rows", "houses"] []
  f_is_settled : ∃ (f : Addr) (fd : FuncData), mg "is_settled" = some (.ref f) ∧ Fun K "is_settled" "is_settled" s_is_settled f fd ∧ Binds K fd ["web", "houses"] []
  f_settled : ∃ (f : Addr) (fd : FuncData), mg "settled" = some (.ref f) ∧ Fun K "settled" "settled" s_settled f fd ∧ Binds K fd ["web", "houses"] []
  f_grown_houses : ∃ (f : Addr) (fd : FuncData), mg "grown_houses" = some (.ref f) ∧ Fun K "grown_houses" "grown_houses" s_grown_houses f fd ∧ Binds K fd ["web", "count"] []
  f_law_taken : ∃ (f : Addr) (fd : FuncData), mg "_law_taken" = some (.ref f) ∧ Fun K "_law_taken" "_law_taken" s_law_taken f fd ∧ Binds K fd ["_law_row", "_law_many"] []
  f_law_pick : ∃ (f : Addr) (fd : FuncData), mg "_law_pick" = some (.ref f) ∧ Fun K "_law_pick" "_law_pick" s_law_pick f fd ∧ Binds K fd ["_law_row", "_law_things"] []
  f_law_order : ∃ (f : Addr) (fd : FuncData), mg "_law_order" = some (.ref f) ∧ Fun K "_law_order" "_law_order" s_law_order f fd ∧ Binds K fd ["_law_row", "_law_many"] []
  f_law_web : ∃ (f : Addr) (fd : FuncData), mg "_law_web" = some (.ref f) ∧ Fun K "_law_web" "_law_web" s_law_web f fd ∧ Binds K fd ["_law_row", "_law_most", "_law_extra"] []
  f_law_rows : ∃ (f : Addr) (fd : FuncData), mg "_law_rows" = some (.ref f) ∧ Fun K "_law_rows" "_law_rows" s_law_rows f fd ∧ Binds K fd ["_law_web_here"] []
  f_law_houses : ∃ (f : Addr) (fd : FuncData), mg "_law_houses" = some (.ref f) ∧ Fun K "_law_houses" "_law_houses" s_law_houses f fd ∧ Binds K fd ["_law_row", "_law_count"] []
  f_law_near : ∃ (f : Addr) (fd : FuncData), mg "_law_near" = some (.ref f) ∧ Fun K "_law_near" "_law_near" s_law_near f fd ∧ Binds K fd ["_law_rows_here", "_law_houses_here"] []
  f_law_sum_by : ∃ (f : Addr) (fd : FuncData), mg "_law_sum_by" = some (.ref f) ∧ Fun K "_law_sum_by" "_law_sum_by" s_law_sum_by f fd ∧ Binds K fd ["_law_web_here", "_law_rows_here", "_law_houses_here"] []
  f_law_alike : ∃ (f : Addr) (fd : FuncData), mg "_law_alike" = some (.ref f) ∧ Fun K "_law_alike" "_law_alike" s_law_alike f fd ∧ Binds K fd ["_law_found", "_law_due"] []
  f_law : ∃ (f : Addr) (fd : FuncData), mg "law" = some (.ref f) ∧ Fun K "law" "law" s_law f fd ∧ Binds K fd ["_law_script"] []

/-! ### what a reading gives, by a property (Ev of HandS.Evl is the case of one value) -/
open Evl
def EvP (te : TE) (σ : L2.St) (H : Hp) (P : V → Hp → Prop) : Prop := ∀ H1, Ex H H1 → ∀ Q : VK, (∀ v H2, Ex H1 H2 → P v H2 → Q v H2) → te σ H1 Q
def EvN (te : TE) (σ : L2.St) (H : Hp) (P : Addr → Hp → Prop) : Prop := ∀ H1, Ex H H1 → ∀ Q : VK, (∀ p H2, H1 p = none → Ex H1 H2 → P p H2 → Q (.ref p) H2) → te σ H1 Q
theorem EvP.mono {te : TE} {σ : L2.St} {H H' : Hp} {P : V → Hp → Prop} (e : Ex H H') (h : EvP te σ H P) : EvP te σ H' P := fun H1 a Q q => h H1 (e.trans a) Q q
theorem EvN.mono {te : TE} {σ : L2.St} {H H' : Hp} {P : Addr → Hp → Prop} (e : Ex H H') (h : EvN te σ H P) : EvN te σ H' P := fun H1 a Q q => h H1 (e.trans a) Q q
theorem EvN.p {te : TE} {σ : L2.St} {H : Hp} {P : Addr → Hp → Prop} (h : EvN te σ H P) : EvP te σ H (fun v H' => ∃ p, v = .ref p ∧ P p H') := fun H1 e Q q => h H1 e Q fun p H2 _ e2 hp => q _ H2 e2 ⟨p, rfl, hp⟩
theorem ev_p {te : TE} {σ : L2.St} {H : Hp} {v : V} (h : Ev te σ H v) : EvP te σ H (fun x _ => x = v) := fun H1 e Q q => h H1 e Q fun H2 e2 => q v H2 e2 rfl
theorem EvP.ev {te : TE} {σ : L2.St} {H : Hp} {v : V} (h : EvP te σ H (fun x _ => x = v)) : Ev te σ H v := fun H1 e Q q => h H1 e Q fun x H2 e2 hx => by
  subst hx
  exact q H2 e2
theorem EvP.imp {te : TE} {σ : L2.St} {H : Hp} {P R : V → Hp → Prop} (h : EvP te σ H P) (k : ∀ v H', Ex H H' → P v H' → R v H') : EvP te σ H R := fun H1 e Q q => h H1 e Q fun v H2 e2 hp => q v H2 e2 (k v H2 (e.trans e2) hp)
theorem EvN.imp {te : TE} {σ : L2.St} {H : Hp} {P R : Addr → Hp → Prop} (h : EvN te σ H P) (k : ∀ v H', Ex H H' → P v H' → R v H') : EvN te σ H R := fun H1 e Q q => h H1 e Q fun v H2 hn e2 hp => q v H2 hn e2 (k v H2 (e.trans e2) hp)
theorem EvL.n {te : TE} {σ : L2.St} {H : Hp} {xs : List V} (h : EvL te σ H xs) : EvN te σ H (fun p H' => H' p = some (.lst xs)) := h
theorem EvU.n {te : TE} {σ : L2.St} {H : Hp} {xs : List V} (h : EvU te σ H xs) : EvN te σ H (fun p H' => H' p = some (.tup xs)) := h
/-- a list's values, each standing for an item -/
def Rel {β : Type} (R : β → V → Hp → Prop) (H : Hp) (bs : List β) (ys : List V) : Prop := Paired (fun b y => R b y H) bs ys
theorem Rel.mono {β : Type} {R : β → V → Hp → Prop} (m : ∀ b v H H', Ex H H' → R b v H → R b v H') {H H' : Hp} (e : Ex H H') {bs : List β} {ys : List V} (h : Rel R H bs ys) : Rel R H' bs ys := Paired.mapP h fun b y => m b y H H' e
theorem Rel.snoc {β : Type} {R : β → V → Hp → Prop} {H : Hp} {b : β} {y : V} : ∀ {bs : List β} {ys : List V}, Rel R H bs ys → R b y H → Rel R H (bs ++ [b]) (ys ++ [y])
  | _, _, .nil, h => .cons h .nil
  | _, _, .cons g t, h => .cons g (Rel.snoc (R := R) (H := H) t h)
theorem Rel.length {β : Type} {R : β → V → Hp → Prop} {H : Hp} {bs : List β} {ys : List V} (h : Rel R H bs ys) : bs.length = ys.length := Paired.length h
theorem Rel.get {β : Type} {R : β → V → Hp → Prop} {H : Hp} : ∀ {bs : List β} {ys : List V}, Rel R H bs ys → ∀ {i : Nat} {y : V}, ys[i]? = some y → ∃ b, bs[i]? = some b ∧ R b y H
  | _, _, .nil, i, y, h => by simp at h
  | _, _, .cons g t, 0, y, h => by
    cases h
    exact ⟨_, rfl, g⟩
  | _, _, .cons g t, i + 1, y, h => Rel.get (R := R) (H := H) t (i := i) h
theorem Rel.get' {β : Type} {R : β → V → Hp → Prop} {H : Hp} : ∀ {bs : List β} {ys : List V}, Rel R H bs ys → ∀ {i : Nat} {b : β}, bs[i]? = some b → ∃ y, ys[i]? = some y ∧ R b y H
  | _, _, .nil, i, y, h => by simp at h
  | _, _, .cons g t, 0, y, h => by
    cases h
    exact ⟨_, rfl, g⟩
  | _, _, .cons g t, i + 1, y, h => Rel.get' (R := R) (H := H) t (i := i) h
theorem Rel.ints {H : Hp} : ∀ {bs : List Int} {ys : List V}, Rel (fun b v _ => v = .int b) H bs ys → ys = bs.map V.int
  | _, _, .nil => rfl
  | _, _, .cons g t => by rw [g, Rel.ints (H := H) t]; rfl
theorem Rel.of_ints {H : Hp} : ∀ (bs : List Int), Rel (fun b v _ => v = .int b) H bs (bs.map V.int)
  | [] => .nil
  | _ :: t => .cons rfl (Rel.of_ints (H := H) t)
/-- what the turns 0, 1, .. give -/
def gives {β : Type} (n : Nat) (f : Nat → Bool) (g : Nat → β) : List β := ((List.range n).filter f).map g
theorem gives_yes {β : Type} {n : Nat} {f : Nat → Bool} {g : Nat → β} (h : f n = true) : gives (n + 1) f g = gives n f g ++ [g n] := by
  unfold gives
  rw [List.range_succ, List.filter_append, List.map_append, List.filter_cons, if_pos h] <;> rfl
theorem gives_no {β : Type} {n : Nat} {f : Nat → Bool} {g : Nat → β} (h : f n = false) : gives (n + 1) f g = gives n f g := by
  unfold gives
  rw [List.range_succ, List.filter_append, List.map_append, List.filter_cons, if_neg (by rw [h]; decide)]
  exact List.append_nil _
theorem gives_len {β : Type} (n : Nat) (f : Nat → Bool) (g : Nat → β) : (gives n f g).length ≤ n := by
  unfold gives
  rw [List.length_map]
  have h := List.length_filter_le f (List.range n)
  rw [List.length_range] at h
  exact h
theorem gives_list {α β : Type} {F : α → Bool} {G : α → β} {f : Nat → Bool} {g : Nat → β} {as : List α} (h : ∀ (i : Nat) (a : α), as[i]? = some a → f i = F a ∧ g i = G a) : gives as.length f g = (as.filter F).map G := by
  have key : ∀ n, n ≤ as.length → gives n f g = ((as.take n).filter F).map G := by
    intro n
    induction n with
    | zero => intro _; rfl
    | succ n ih =>
      intro hn
      have hlt : n < as.length := hn
      obtain ⟨h1, h2⟩ := h n as[n] (List.getElem?_eq_getElem hlt)
      rw [List.take_add_one, List.getElem?_eq_getElem hlt, List.filter_append, List.map_append, ← ih (Nat.le_of_lt hlt)]
      cases hF : F as[n] with
      | true =>
        rw [gives_yes (h1.trans hF), h2]
        show _ = _ ++ ((List.filter F [as[n]]).map G)
        rw [List.filter_cons, if_pos hF]
        rfl
      | false =>
        rw [gives_no (h1.trans hF)]
        show _ = _ ++ ((List.filter F [as[n]]).map G)
        rw [List.filter_cons, if_neg (by rw [hF]; decide)]
        exact (List.append_nil _).symm
  have := key as.length (Nat.le_refl _)
  rwa [List.take_length] at this
theorem gives_range {β : Type} {F : Nat → Bool} {G : Nat → β} {n : Nat} : gives n F G = ((List.range n).filter F).map G := rfl
section
variable {β : Type} {R : β → V → Hp → Prop} {H : Hp} {f : Nat → Bool} {g : Nat → β} {Dl : Addr}
/-- a comprehension's state behind i turns -/
def CwP (R : β → V → Hp → Prop) (H : Hp) (f : Nat → Bool) (g : Nat → β) (Dl : Addr) (i : Nat) (H' : Hp) : Prop := H Dl = none ∧ Ex H H' ∧ ∃ ys, H' Dl = some (.lst ys) ∧ Rel R H' (gives i f g) ys
/-- what is told of a value stands when the heap grows, and when some list changes -/
structure Stays (R : β → V → Hp → Prop) : Prop where
  mono : ∀ b v H H', Ex H H' → R b v H → R b v H'
  list : ∀ b v H p xs ys, H p = some (.lst xs) → R b v H → R b v (upd H p (.lst ys))
theorem Stays.int : Stays (fun (b : Int) v _ => v = .int b) := ⟨fun _ _ _ _ _ h => h, fun _ _ _ _ _ _ _ h => h⟩
theorem cwP_turn (S : Stays R) {t : TT} {te : TE} {Hb H' : Hp} {i : Nat} {σ2 : L2.St} (p : CwP R H f g Dl i H') (eb : Ex Hb H') (hi : i < 50000) (ht : EvT t σ2 Hb (f i)) (he : f i = true → EvP te σ2 Hb (R (g i))) :
    t σ2 H' fun b H3 => if b = true then te σ2 H3 fun y H4 => ∃ acc, H4 Dl = some (.lst acc) ∧ acc.length < sizeLine ∧ CwP R H f g Dl (i + 1) (upd H4 Dl (.lst (acc ++ [y]))) else CwP R H f g Dl (i + 1) H3 := by
  obtain ⟨p1, p2, ys, p3, p4⟩ := p
  refine ht H' eb _ fun H3 e3 => ?_
  cases hf : f i with
  | true =>
    show te σ2 H3 fun y H4 => ∃ acc, H4 Dl = some (.lst acc) ∧ acc.length < sizeLine ∧ CwP R H f g Dl (i + 1) (upd H4 Dl (.lst (acc ++ [y])))
    refine he hf H3 (eb.trans e3) _ fun y H4 e4 hy => ⟨ys, e4 Dl _ (e3 Dl _ p3), sz_lt (by have := gives_len i f g; rw [p4.length] at this; omega), p1, Ex.mut ((p2.trans e3).trans e4) p1, _, upd_same, ?_⟩
    rw [gives_yes hf]
    have q1 : Rel R H4 (gives i f g ++ [g i]) (ys ++ [y]) := (p4.mono S.mono (e3.trans e4)).snoc hy
    exact Paired.mapP q1 fun b v hb => S.list b v H4 Dl ys _ (e4 Dl _ (e3 Dl _ p3)) hb
  | false =>
    show CwP R H f g Dl (i + 1) H3
    refine ⟨p1, p2.trans e3, ys, e3 Dl _ p3, ?_⟩
    rw [gives_no hf]
    exact p4.mono S.mono e3
/-- the new list of a comprehension -/
def LstOf (R : β → V → Hp → Prop) (bs : List β) (p : Addr) (H : Hp) : Prop := ∃ ys, H p = some (.lst ys) ∧ Rel R H bs ys
theorem LstOf.ints {bs : List Int} {p : Addr} {H : Hp} (h : LstOf (fun b v _ => v = .int b) bs p H) : H p = some (.lst (bs.map V.int)) := by
  obtain ⟨ys, h1, h2⟩ := h
  rw [h1, Rel.ints h2]
variable {K : PySem.W.Frag} {σ : L2.St} {tt : TT} {te : TE} {gt : TG} {vs : List Nat}
/-- what one turn of a comprehension is to show: the target stored, the test, the element -/
def LcTurn (R : β → V → Hp → Prop) (gt : TG) (tt : TT) (te : TE) (vs : List Nat) (σ : L2.St) (H : Hp) (x : V) (b : Bool) (y : β) : Prop :=
  ∃ σ2, (∀ H1 (Q : L2.St → Hp → Prop), Ex H H1 → Q σ2 H1 → gt x (wipe σ vs) H1 Q) ∧ wipe σ2 vs = wipe σ vs ∧ EvT tt σ2 H b ∧ (b = true → EvP te σ2 H (R y))
theorem LcTurn.go' (S : Stays R) {Hb H' : Hp} {i : Nat} {x : V} (h : LcTurn R gt tt te vs σ Hb x (f i) (g i)) (p : CwP R H f g Dl i H') (eb : Ex Hb H') (hi : i < 50000) :
    gt x (wipe σ vs) H' fun σ2 H2 => wipe σ2 vs = wipe σ vs ∧ tt σ2 H2 fun b H3 => if b = true then te σ2 H3 fun y H4 => ∃ acc, H4 Dl = some (.lst acc) ∧ acc.length < sizeLine ∧ CwP R H f g Dl (i + 1) (upd H4 Dl (.lst (acc ++ [y]))) else CwP R H f g Dl (i + 1) H3 := by
  obtain ⟨σ2, h1, h2, h3, h4⟩ := h
  exact h1 H' _ eb ⟨h2, cwP_turn S p eb hi h3 h4⟩
theorem LcTurn.go (S : Stays R) {H' : Hp} {i : Nat} {x : V} (h : LcTurn R gt tt te vs σ H x (f i) (g i)) (p : CwP R H f g Dl i H') (hi : i < 50000) :
    gt x (wipe σ vs) H' fun σ2 H2 => wipe σ2 vs = wipe σ vs ∧ tt σ2 H2 fun b H3 => if b = true then te σ2 H3 fun y H4 => ∃ acc, H4 Dl = some (.lst acc) ∧ acc.length < sizeLine ∧ CwP R H f g Dl (i + 1) (upd H4 Dl (.lst (acc ++ [y]))) else CwP R H f g Dl (i + 1) H3 := h.go' S p p.2.1 hi
theorem elP_rng1 (S : Stays R) {ta : TA} {n : Int} (f : Nat → Bool) (g : Nat → β) (h : EvA ta σ H [.int n]) (hn : 0 ≤ n ∧ n ≤ 40000)
    (ht : ∀ (i : Nat) H1, Ex H H1 → (i : Int) < n → LcTurn R gt tt te vs σ H1 (.int (i : Int)) (f i) (g i)) :
    EvN (tLc (iRng1 ta) gt tt te vs) σ H (LstOf R (gives n.toNat f g)) := fun H0 e Q q => h H0 e _ fun H1 e1 => ⟨n, rfl, by omega, by omega, fun Dl hD =>
  lc_range (lo := 0) (n := n.toNat) (CwP R H1 f g Dl) ⟨hD, Ex.new hD, [], upd_same, .nil⟩ (fun i H' hi p => by
    have e0 : (0 : Int) + (i : Int) = (i : Int) := Int.zero_add _
    rw [e0]
    exact (ht i H1 (e.trans e1) (by omega)).go S p (by omega)) (fun H' p => q Dl H' (fresh_back e1 p.1) (e1.trans p.2.1) p.2.2)⟩
theorem elP_rng2 (S : Stays R) {ta : TA} {lo n : Int} (f : Nat → Bool) (g : Nat → β) (h : EvA ta σ H [.int lo, .int n]) (hn : 0 ≤ lo ∧ lo ≤ n ∧ n ≤ 40000)
    (ht : ∀ (i : Nat) H1, Ex H H1 → lo + (i : Int) < n → LcTurn R gt tt te vs σ H1 (.int (lo + (i : Int))) (f i) (g i)) :
    EvN (tLc (iRng2 ta) gt tt te vs) σ H (LstOf R (gives (n - lo).toNat f g)) := fun H0 e Q q => h H0 e _ fun H1 e1 => ⟨lo, n, rfl, ⟨by omega, by omega, by omega, by omega⟩, fun Dl hD =>
  lc_range (lo := lo) (n := (n - lo).toNat) (CwP R H1 f g Dl) ⟨hD, Ex.new hD, [], upd_same, .nil⟩ (fun i H' hi p => (ht i H1 (e.trans e1) (by omega)).go S p (by omega)) (fun H' p => q Dl H' (fresh_back e1 p.1) (e1.trans p.2.1) p.2.2)⟩
/-- what the turns give over a list of known things -/
theorem gives_of {α : Type} {as : List α} (a0 : α) (F : α → Bool) (G : α → β) : gives as.length (fun i => F (as.getD i a0)) (fun i => G (as.getD i a0)) = (as.filter F).map G := gives_list fun i b hb => by
  have : as.getD i a0 = b := by rw [List.getD_eq_getElem?_getD, hb]; rfl
  rw [this]
  exact ⟨rfl, rfl⟩
/-- over a list, told by what it holds -/
theorem elP_lst (S : Stays R) {tl : TE} {α : Type} {RA : α → V → Hp → Prop} {as : List α} (F : α → Bool) (G : α → β) (h : EvP tl σ H (fun v H' => ∃ a, v = .ref a ∧ LstOf RA as a H')) (hz : as.length ≤ 40000)
    (ht : ∀ (a : α) (x : V) H1, Ex H H1 → a ∈ as → RA a x H1 → LcTurn R gt tt te vs σ H1 x (F a) (G a)) :
    EvN (tLc (iList K tl) gt tt te vs) σ H (LstOf R ((as.filter F).map G)) := fun H0 e Q q => h H0 e _ fun v H1 e1 hx => by
  obtain ⟨a, rfl, xs, hx1, hx2⟩ := hx
  have hl := hx2.length
  refine ⟨a, rfl, ⟨xs, sq_of hx1⟩, fun Dl hD => ?_⟩
  cases as with
  | nil =>
    have hxs : xs = [] := List.length_eq_zero_iff.mp hl.symm
    subst hxs
    exact lc_list (xs := []) (fun _ H' => H1 Dl = none ∧ Ex H1 H' ∧ H' Dl = some (.lst [])) ⟨hD, Ex.new hD, upd_same⟩ (fun i H' _ p => sq_of (p.2.1 a _ hx1)) (fun i x H' hi p => by simp at hi) fun H' p => q Dl H' (fresh_back e1 p.1) (e1.trans p.2.1) ⟨[], p.2.2, .nil⟩
  | cons a0 r =>
    rw [← gives_of a0 F G] at q
    refine lc_list (xs := xs) (CwP R H1 (fun i => F ((a0 :: r).getD i a0)) (fun i => G ((a0 :: r).getD i a0)) Dl) ⟨hD, Ex.new hD, [], upd_same, .nil⟩ (fun i H' _ p => sq_of (p.2.1 a _ hx1)) (fun i x H' hi p => ?_) fun H' p => by
      rw [← hl] at p
      exact q Dl H' (fresh_back e1 p.1) (e1.trans p.2.1) p.2.2
    obtain ⟨b, hb, hr⟩ := hx2.get hi
    have : (a0 :: r).getD i a0 = b := by rw [List.getD_eq_getElem?_getD, hb]; rfl
    have z := ht b x H1 (e.trans e1) (List.mem_of_getElem? hb) hr
    rw [← this] at z
    exact LcTurn.go (f := fun i => F ((a0 :: r).getD i a0)) (g := fun i => G ((a0 :: r).getD i a0)) S z p (by have := (List.getElem?_eq_some_iff.mp hi).1; omega)
/-- over a tuple -/
theorem elP_tup (S : Stays R) {tl : TE} {α : Type} {RA : α → V → Hp → Prop} (mono : ∀ b v H H', Ex H H' → RA b v H → RA b v H') {as : List α} (F : α → Bool) (G : α → β) (h : EvP tl σ H (fun v H' => ∃ a ys, v = .ref a ∧ H' a = some (.tup ys) ∧ Rel RA H' as ys)) (hz : as.length ≤ 40000)
    (ht : ∀ (a : α) (x : V) H1, Ex H H1 → a ∈ as → RA a x H1 → LcTurn R gt tt te vs σ H1 x (F a) (G a)) :
    EvN (tLc (iTup K tl) gt tt te vs) σ H (LstOf R ((as.filter F).map G)) := fun H0 e Q q => h H0 e _ fun v H1 e1 hx => by
  obtain ⟨a, xs, rfl, hx1, hx2⟩ := hx
  have hl := hx2.length
  refine ⟨a, rfl, ⟨xs, st_of hx1⟩, fun Dl hD => ?_⟩
  cases as with
  | nil =>
    have hxs : xs = [] := List.length_eq_zero_iff.mp hl.symm
    subst hxs
    exact lc_tup (xs := []) (fun _ H' => H1 Dl = none ∧ Ex H1 H' ∧ H' Dl = some (.lst [])) ⟨hD, Ex.new hD, upd_same⟩ (fun i H' _ p => st_of (p.2.1 a _ hx1)) (fun i x H' hi p => by simp at hi) fun H' p => q Dl H' (fresh_back e1 p.1) (e1.trans p.2.1) ⟨[], p.2.2, .nil⟩
  | cons a0 r =>
    rw [← gives_of a0 F G] at q
    refine lc_tup (xs := xs) (CwP R H1 (fun i => F ((a0 :: r).getD i a0)) (fun i => G ((a0 :: r).getD i a0)) Dl) ⟨hD, Ex.new hD, [], upd_same, .nil⟩ (fun i H' _ p => st_of (p.2.1 a _ hx1)) (fun i x H' hi p => ?_) fun H' p => by
      rw [← hl] at p
      exact q Dl H' (fresh_back e1 p.1) (e1.trans p.2.1) p.2.2
    obtain ⟨b, hb, hr⟩ := hx2.get hi
    have : (a0 :: r).getD i a0 = b := by rw [List.getD_eq_getElem?_getD, hb]; rfl
    have z := ht b x H1 (e.trans e1) (List.mem_of_getElem? hb) hr
    rw [← this] at z
    exact LcTurn.go (f := fun i => F ((a0 :: r).getD i a0)) (g := fun i => G ((a0 :: r).getD i a0)) S z p (by have := (List.getElem?_eq_some_iff.mp hi).1; omega)
/-- a list, a tuple that stands, as what a comprehension walks -/
theorem evP_lst {tl : TE} {α : Type} {RA : α → V → Hp → Prop} (mono : ∀ b v H H', Ex H H' → RA b v H → RA b v H') {as : List α} {a : Addr} (h : Ev tl σ H (.ref a)) (hx : LstOf RA as a H) : EvP tl σ H (fun v H' => ∃ a, v = .ref a ∧ LstOf RA as a H') := fun H1 e Q q =>
  h H1 e _ fun H2 e2 => by
    obtain ⟨ys, h1, h2⟩ := hx
    exact q _ H2 e2 ⟨a, rfl, ys, e2 _ _ (e _ _ h1), h2.mono mono (e.trans e2)⟩
theorem evP_tup {tl : TE} {α : Type} {RA : α → V → Hp → Prop} (mono : ∀ b v H H', Ex H H' → RA b v H → RA b v H') {as : List α} {a : Addr} {ys : List V} (h : Ev tl σ H (.ref a)) (h1 : H a = some (.tup ys)) (h2 : Rel RA H as ys) : EvP tl σ H (fun v H' => ∃ a ys, v = .ref a ∧ H' a = some (.tup ys) ∧ Rel RA H' as ys) := fun H1 e Q q =>
  h H1 e _ fun H2 e2 => q _ H2 e2 ⟨a, ys, rfl, e2 _ _ (e _ _ h1), h2.mono mono (e.trans e2)⟩
/-- the usual turn: the target a name -/
theorem lcTurn_name {j : Nat} {x : V} {b : Bool} {y : β} (hw : wipe ((wipe σ vs).set j (some x)) vs = wipe σ vs) (ht : EvT tt ((wipe σ vs).set j (some x)) H b) (he : b = true → EvP te ((wipe σ vs).set j (some x)) H (R y)) : LcTurn R (gName j) tt te vs σ H x b y :=
  ⟨_, fun _ _ _ q => q, hw, ht, he⟩
theorem evT_yes : EvT tYes σ H true := fun H1 _ _ q => q H1 (Ex.refl H1)
end
/-! ### a def that stands and keeps its promise -/
structure Cl (P : Program) (w : World) (K : PySem.W.Frag) (mg : Str → Option Value) (base : Heap) (x : Str) (k : Nat) (ps : List Str) (sp : Sp) : Prop where
  ex : ∃ (f : Addr) (fd : FuncData), mg x = some (.ref f) ∧ PySem.W.keepIn K (.ref f) = true ∧ Binds K fd ps [] ∧ FnOk P w K mg base CX0 k f fd ps sp
theorem pe_cl {X : Cx} {x : Str} {k : Nat} {ps : List Str} {sp : Sp} {e : Expr} {es : List Expr} {t : TA} {p pos : Pos} (C : Cl X.prog X.w X.K X.mg X.base x k ps sp) (hr : Room k X.A) (hg : Gl X x) (ha : PA X (e :: es) t)
    (hdb : (x == ("__debug__" : Str)) = false := by decide) (he : starEach (e :: es) X.env = (false, eval e X.env) :: starEach es X.env := by rfl) (hpl : (backTo pos (starEach es X.env)).any (·.1) = false := by rfl) :
    PE X (.Call (.Name x p) (e :: es) [] pos) (tCall sp [] E0 t) := by
  obtain ⟨f, fd, hm, kp, b, F⟩ := C.ex
  exact pe_call F hr hg hm kp b .nil pass0 ha hdb he hpl
/-- a call's answer -/
theorem evP_call {sp : Sp} {vs : List V} {E : XK} {ta : TA} {σ : L2.St} {H : Hp} {P : V → Hp → Prop} (h : EvA ta σ H vs) (hs : ∀ H1, Ex H H1 → ∀ Q : VK, (∀ v H2, Ex H1 H2 → P v H2 → Q v H2) → sp vs H1 Q E) : EvP (tCall sp [] E ta) σ H P := fun H1 e Q q =>
  h H1 e _ fun H2 e2 => by
    show sp (vs ++ []) H2 Q E
    rw [List.append_nil]
    exact hs H2 (e.trans e2) Q fun v H3 e3 hp => q v H3 (e2.trans e3) hp
theorem evN_call {sp : Sp} {vs : List V} {E : XK} {ta : TA} {σ : L2.St} {H : Hp} {P : Addr → Hp → Prop} (h : EvA ta σ H vs) (hs : ∀ H1, Ex H H1 → ∀ Q : VK, (∀ p H2, H1 p = none → Ex H1 H2 → P p H2 → Q (.ref p) H2) → sp vs H1 Q E) : EvN (tCall sp [] E ta) σ H P := fun H1 e Q q =>
  h H1 e _ fun H2 e2 => by
    show sp (vs ++ []) H2 Q E
    rw [List.append_nil]
    exact hs H2 (e.trans e2) Q fun v H3 hn e3 hp => q v H3 (fresh_back e2 hn) (e2.trans e3) hp
end NH
namespace NH
open PySem L2 Evl
/-! ### how the web, its table, houses stand in the heap -/
abbrev nV (x : Nat) : V := .int (x : Int)
def RoadR (r : Road) (v : V) (H : Hp) : Prop := ∃ a, v = .ref a ∧ H a = some (.tup [.int (r.1 : Int), .int (r.2.1 : Int), .int r.2.2])
def RowR (r : List Int) (v : V) (H : Hp) : Prop := ∃ a, v = .ref a ∧ H a = some (.lst (r.map V.int))
def HsR (h : List Nat) (v : V) (H : Hp) : Prop := ∃ a, v = .ref a ∧ H a = some (.tup (h.map nV))
theorem RowR.mono (b : List Int) (v : V) (H H' : Hp) (e : Ex H H') (h : RowR b v H) : RowR b v H' := by
  obtain ⟨a, h1, h2⟩ := h
  exact ⟨a, h1, e _ _ h2⟩
theorem tup_keep {H : Hp} {a p : Addr} {xs ys zs : List V} (hp : H p = some (.lst xs)) (h : H a = some (.tup ys)) : (upd H p (.lst zs)) a = some (.tup ys) := by
  rw [upd_ne (ne_of h hp (by intro q; cases q))]
  exact h
theorem stays_road : Stays RoadR := ⟨fun b v H H' e ⟨a, h1, h2⟩ => ⟨a, h1, e _ _ h2⟩, fun b v H p xs ys hp ⟨a, h1, h2⟩ => ⟨a, h1, tup_keep hp h2⟩⟩
theorem stays_hs : Stays HsR := ⟨fun b v H H' e ⟨a, h1, h2⟩ => ⟨a, h1, e _ _ h2⟩, fun b v H p xs ys hp ⟨a, h1, h2⟩ => ⟨a, h1, tup_keep hp h2⟩⟩
def RowsAt (H : Hp) (p : Addr) (rows : List (List Int)) : Prop := LstOf RowR rows p H
theorem RowsAt.mono {H H' : Hp} {p : Addr} {rows : List (List Int)} (e : Ex H H') (h : RowsAt H p rows) : RowsAt H' p rows := by
  obtain ⟨ys, h1, h2⟩ := h
  exact ⟨ys, e _ _ h1, h2.mono RowR.mono e⟩
/-- the web at p: its weights at pw, its roads at pr -/
structure WebAt (H : Hp) (p pw pr : Addr) (ws : List Int) (rs : List Road) : Prop where
  web : H p = some (.tup [.ref pw, .ref pr])
  wts : H pw = some (.tup (ws.map V.int))
  rds : ∃ ys, H pr = some (.tup ys) ∧ Rel RoadR H rs ys
theorem WebAt.mono {H H' : Hp} {p pw pr : Addr} {ws : List Int} {rs : List Road} (e : Ex H H') (h : WebAt H p pw pr ws rs) : WebAt H' p pw pr ws rs := by
  obtain ⟨ys, h1, h2⟩ := h.rds
  exact ⟨e _ _ h.web, e _ _ h.wts, ys, e _ _ h1, h2.mono stays_road.mono e⟩
/-- houses as they are handed over: a tuple or a list -/
def HsAt (H : Hp) (p : Addr) (hs : List Nat) : Prop := H p = some (.tup (hs.map nV)) ∨ H p = some (.lst (hs.map nV))
theorem HsAt.mono {H H' : Hp} {p : Addr} {hs : List Nat} (e : Ex H H') (h : HsAt H p hs) : HsAt H' p hs := h.elim (fun q => .inl (e _ _ q)) (fun q => .inr (e _ _ q))
/-! ### more readings -/
section
variable {K : PySem.W.Frag} {σ : L2.St} {H : Hp} {D : Ends} {ta te : TE} {P : Addr → Hp → Prop}
theorem s_retN (h : EvN te σ H P) (k : ∀ p H1, H p = none → Ex H H1 → P p H1 → D.rt (.ref p) H1) : tRet te D σ H := h H (Ex.refl H) _ k
theorem s_retP {P : V → Hp → Prop} (h : EvP te σ H P) (k : ∀ v H1, Ex H H1 → P v H1 → D.rt v H1) : tRet te D σ H := h H (Ex.refl H) _ k
theorem s_asgN {i : Nat} (h : EvN te σ H P) (k : ∀ p H1, H p = none → Ex H H1 → P p H1 → D.nx (σ.set i (some (.ref p))) H1) : tAsg te (gName i) D σ H := h H (Ex.refl H) _ k
theorem s_asgP {i : Nat} {P : V → Hp → Prop} (h : EvP te σ H P) (k : ∀ v H1, Ex H H1 → P v H1 → D.nx (σ.set i (some v)) H1) : tAsg te (gName i) D σ H := h H (Ex.refl H) _ k
theorem q_asgN {tz : TS} {i : Nat} (h : EvN te σ H P) (k : ∀ p H1, H p = none → Ex H H1 → P p H1 → tz D (σ.set i (some (.ref p))) H1) : tSeq (tAsg te (gName i)) tz D σ H := h H (Ex.refl H) _ k
theorem q_asgP {tz : TS} {i : Nat} {P : V → Hp → Prop} (h : EvP te σ H P) (k : ∀ v H1, Ex H H1 → P v H1 → tz D (σ.set i (some v)) H1) : tSeq (tAsg te (gName i)) tz D σ H := h H (Ex.refl H) _ k
theorem q_dropP {tz : TS} {P : V → Hp → Prop} (h : EvP te σ H P) (k : ∀ v H1, Ex H H1 → P v H1 → tz D σ H1) : tSeq (tDrop te) tz D σ H := h H (Ex.refl H) _ k
/-- min, sum, len of a new list of ints -/
theorem ev_minN {ns : List Int} (h : EvN te σ H (fun p H' => H' p = some (.lst (ns.map V.int)))) (hne : ns ≠ []) : Ev (tCB (rMin K) (tCons te tNil)) σ H (.int (minL ns)) := fun H1 e Q q =>
  h H1 e _ fun p H2 _ e2 hp => ⟨p, ns, rfl, sq_of hp, List.length_pos_iff.mpr hne, fun m h1 h2 => by
    rw [minL_eq h1 h2]
    exact q H2 e2⟩
theorem ev_sumN {ns : List Int} (h : EvN te σ H (fun p H' => H' p = some (.lst (ns.map V.int)))) : Ev (tCB (rSum K) (tCons te tNil)) σ H (.int ns.sum) := fun H1 e Q q =>
  h H1 e _ fun p H2 _ e2 hp => ⟨p, ns, rfl, sq_of hp, q H2 e2⟩
abbrev rLenQ (K : PySem.W.Frag) : List V → Hp → VK → Prop := fun xs H Q => ∃ p ys, xs = [.ref p] ∧ (SqL K H p ys ∨ SqT K H p ys) ∧ Q (.int ys.length) H
theorem ev_lenL {p : Addr} {xs : List V} (h : Ev te σ H (.ref p)) (hx : H p = some (.lst xs)) : Ev (tCB (rLenQ K) (tCons te tNil)) σ H (.int (xs.length : Int)) := fun H1 e Q q =>
  h H1 e _ fun H2 e2 => ⟨p, xs, rfl, .inl (sq_of (e2 _ _ (e _ _ hx))), q H2 e2⟩
theorem ev_lenT {p : Addr} {xs : List V} (h : Ev te σ H (.ref p)) (hx : H p = some (.tup xs)) : Ev (tCB (rLenQ K) (tCons te tNil)) σ H (.int (xs.length : Int)) := fun H1 e Q q =>
  h H1 e _ fun H2 e2 => ⟨p, xs, rfl, .inr (st_of (e2 _ _ (e _ _ hx))), q H2 e2⟩
theorem ea_one {x : V} (h : Ev te σ H x) : EvA (tCons te tNil) σ H [x] := ea_cons h ea_nil
/-- t[i], l[i] -/
theorem ev_ixT {ti : TE} {p : Addr} {xs : List V} {i : Nat} {v : V} (h : Ev te σ H (.ref p)) (hi : Ev ti σ H (.int (i : Int))) (hx : H p = some (.tup xs)) (hv : xs[i]? = some v) : Ev (tOp (rIxT K) te ti) σ H v :=
  ev_op h hi (rv_ixT (st_of hx) (atI_nat hv))
theorem ev_ixL {ti : TE} {p : Addr} {xs : List V} {i : Nat} {v : V} (h : Ev te σ H (.ref p)) (hi : Ev ti σ H (.int (i : Int))) (hx : H p = some (.lst xs)) (hv : xs[i]? = some v) : Ev (tOp (rIxL K) te ti) σ H v :=
  ev_op h hi (rv_ixL (sq_of hx) (atI_nat hv))
theorem ix_int {l : List Int} {i : Nat} (h : i < l.length) : (l.map V.int)[i]? = some (.int (l.getD i 0)) := by
  rw [List.getElem?_map, List.getElem?_eq_getElem h, List.getD_eq_getElem?_getD, List.getElem?_eq_getElem h]
  rfl
theorem ix_nat {l : List Nat} {i x : Nat} (h : l[i]? = some x) : (l.map nV)[i]? = some (nV x) := by
  rw [List.getElem?_map, h]
  rfl
theorem ix_nat' {l : List Nat} {i : Nat} {v : V} (h : (l.map nV)[i]? = some v) : ∃ x, l[i]? = some x ∧ v = nV x := by
  rw [List.getElem?_map] at h
  cases e : l[i]? with
  | none => rw [e] at h; cases h
  | some x =>
    rw [e] at h
    exact ⟨x, rfl, (Option.some.inj h).symm⟩
end
theorem rel_nV {H : Hp} : ∀ (l : List Nat), Rel (fun x v _ => v = nV x) H l (l.map nV)
  | [] => .nil
  | _ :: t => .cons rfl (rel_nV (H := H) t)
theorem rel_int {H : Hp} : ∀ (l : List Int), Rel (fun x v _ => v = V.int x) H l (l.map V.int)
  | [] => .nil
  | _ :: t => .cons rfl (rel_int (H := H) t)
theorem same_mono {α : Type} {g : α → V} : ∀ (b : α) (v : V) (H H' : Hp), Ex H H' → v = g b → v = g b := fun _ _ _ _ _ h => h
/-! ### what near_in and sum_in tell -/
def near (rows : List (List Int)) (hs : List Nat) : List Int := rows.map fun row => minL (hs.map fun x => row.getD x 0)
def cost (ws : List Int) (rows : List (List Int)) (hs : List Nat) : Int := ((ws.zip (near rows hs)).map fun p => p.1 * p.2).sum
theorem near_len (rows : List (List Int)) (hs : List Nat) : (near rows hs).length = rows.length := by simp [near]
end NH
namespace NH
open PySem L2 Evl
section
variable {P : Program} {w : World} {K : PySem.W.Frag} {mg : Str → Option Value} {base : Heap} {f : Addr} {fd : FuncData}
/-- is_in of ints -/
def spIsIn : Sp := fun vs H Q _ => ∃ x lo hi : Int, vs = [.int x, .int lo, .int hi] ∧ Q (.bl (decide (lo ≤ x ∧ x ≤ hi))) H
theorem scIsIn : FnScope ["value", "least", "most"] ["value", "least", "most"] (defScope s_is_in) := ⟨rfl, rfl, rfl, by decide +kernel, rfl, by decide +kernel, by decide +kernel⟩
theorem ok_is_in (T : Txt K mg) (F : Fun K "is_in" "is_in" s_is_in f fd) : FnOk P w K mg base CX0 1 f fd ["value", "least", "most"] spIsIn := by
  refine F.ok scIsIn (fun vs H Q E h => ?_) (fun cdv A outer s H vs Q E hr h => ?_)
  · obtain ⟨x, lo, hi, rfl, _⟩ := h
    rfl
  obtain ⟨x, lo, hi, rfl, q⟩ := h
  refine ⟨_, pss_one (ps_ret (pe_and (pe_callB call_isi (by rfl) T.b_isinstance (by decide +kernel) (pa_cons (pv 0) (pa_cons (pe_bltn (by rfl) T.b_int (by decide +kernel) (v := .ty "int") rfl) pa_nil)))
    (pe_and (pe_not (pe_callB call_isi (by rfl) T.b_isinstance (by decide +kernel) (pa_cons (pv 0) (pa_cons (pe_bltn (by rfl) T.b_bool (by decide +kernel) (v := .ty "bool") rfl) pa_nil))))
    (pe_one (pe_chain op_le op_le (pv 1) (pv 0) (pv 2)))))), ?_⟩
  refine ⟨_, rfl, _, _, _, _, true, rfl, .ty _, .base (.int x), kit_ty (by decide +kernel), true, rfl, iteT ?_⟩
  refine ⟨_, rfl, _, _, _, _, false, rfl, .ty _, .base (.int x), kit_ty (by decide +kernel), false, rfl, _, rfl, iteT ?_⟩
  refine ⟨_, rfl, _, rfl, _, _, rfl, rfl, _, rfl, ite2 (fun c => ?_) (fun c => ?_)⟩
  · refine ⟨_, rfl, _, _, rfl, rfl, ?_⟩
    have c1 : lo ≤ x := of_decide_eq_true c
    have e : decide (lo ≤ x ∧ x ≤ hi) = decide (x ≤ hi) := decide_eq_decide.mpr ⟨fun z => z.2, fun z => ⟨c1, z⟩⟩
    rw [e] at q
    exact q
  · have c1 : ¬ lo ≤ x := of_decide_eq_false (Bool.eq_false_iff.mpr c)
    have e : decide (lo ≤ x ∧ x ≤ hi) = false := decide_eq_false fun z => c1 z.1
    rw [e] at q
    exact q
end
end NH
namespace NH
open PySem L2 Evl
section
variable {P : Program} {w : World} {K : PySem.W.Frag} {mg : Str → Option Value} {base : Heap} {f : Addr} {fd : FuncData}
def spNear : Sp := fun vs H Q _ => ∃ pr ph rows hs, vs = [.ref pr, .ref ph] ∧ RowsAt H pr rows ∧ HsAt H ph hs ∧ hs ≠ [] ∧ rows.length ≤ 1000 ∧ hs.length ≤ 1000 ∧ (∀ row ∈ rows, ∀ x ∈ hs, x < row.length) ∧
  ∀ p H', H p = none → Ex H H' → H' p = some (.lst ((near rows hs).map V.int)) → Q (.ref p) H'
theorem scNear : FnScope ["rows", "houses", "row", "x"] ["rows", "houses"] (defScope s_near_in) := ⟨rfl, rfl, rfl, by decide +kernel, rfl, by decide +kernel, by decide +kernel⟩
/-- the reading of near_in, whatever the houses stand in -/
theorem near_read {H : Hp} {pr ph : Addr} {rows : List (List Int)} {hs : List Nat} {it : TI} (hR : RowsAt H pr rows) (hne : hs ≠ []) (hl1 : rows.length ≤ 1000) (hb : ∀ row ∈ rows, ∀ x ∈ hs, x < row.length)
    (walk : ∀ (σ : L2.St) (H1 : Hp) (G : Nat → Int), σ[1]? = some (some (.ref ph)) → Ex H H1 → ∀ {te : TE} {vs : List Nat} {gt : TG},
      (∀ (x : Nat) H2, Ex H1 H2 → x ∈ hs → LcTurn (fun (b : Int) v _ => v = .int b) gt tYes te vs σ H2 (nV x) true (G x)) → EvN (tLc it gt tYes te vs) σ H1 (LstOf (fun (b : Int) v _ => v = .int b) ((hs.filter fun _ => true).map G))) :
    EvN (tLc (iList K (tVar 0)) (gName 2) tYes (tCB (rMin K) (tCons (tLc it (gName 3) tYes (tOp (rIxL K) (tVar 2) (tVar 3)) [3]) tNil)) [2]) [some (.ref pr), some (.ref ph), none, none] H (fun p H' => H' p = some (.lst ((near rows hs).map V.int))) := by
  have key := elP_lst (K := K) (R := fun (b : Int) v _ => v = .int b) (gt := gName 2) (tt := tYes) (te := tCB (rMin K) (tCons (tLc it (gName 3) tYes (tOp (rIxL K) (tVar 2) (tVar 3)) [3]) tNil)) (vs := [2]) (σ := [some (.ref pr), some (.ref ph), none, none]) (H := H) Stays.int
    (tl := tVar 0) (RA := RowR) (as := rows) (fun _ => true) (fun row => minL (hs.map fun x => row.getD x 0)) (evP_lst RowR.mono (ev_var rfl) hR) (by omega) ?_
  · rw [List.filter_eq_self.mpr fun _ _ => rfl] at key
    exact key.imp fun p H' _ h => h.ints
  · rintro row v H1 e hm ⟨a, rfl, ha⟩
    refine lcTurn_name rfl evT_yes fun _ => ev_p (ev_minN (ns := hs.map fun x => row.getD x 0) ?_ (fun q => hne (List.map_eq_nil_iff.mp q)))
    have z := walk [some (.ref pr), some (.ref ph), some (.ref a), none] H1 (fun x => row.getD x 0) rfl e (te := tOp (rIxL K) (tVar 2) (tVar 3)) (vs := [3]) (gt := gName 3) fun x H2 e2 hx =>
      lcTurn_name rfl evT_yes fun _ => ev_p (ev_ixL (ev_var rfl) (ev_var rfl) (e2 _ _ ha) (ix_int (hb row hm x hx)))
    rw [List.filter_eq_self.mpr fun _ _ => rfl] at z
    exact z.imp fun p H' _ h => h.ints
theorem ok_near (T : Txt K mg) (F : Fun K "near_in" "near_in" s_near_in f fd) : FnOk P w K mg base CX0 1 f fd ["rows", "houses"] spNear := by
  refine F.ok scNear (fun vs H Q E h => ?_) (fun cdv A outer s H vs Q E hr h => ?_)
  · obtain ⟨_, _, _, _, rfl, _⟩ := h
    rfl
  obtain ⟨pr, ph, rows, hs, rfl, hR, hH, hne, hl1, hl2, hb, q⟩ := h
  rcases hH with hH | hH
  · refine ⟨_, pss_one (ps_ret (pe_lc (own := [("row", 2)]) (g := gName 2) (tt := tYes) (te := tCB (rMin K) (tCons (tLc (iTup K (tVar 1)) (gName 3) tYes (tOp (rIxL K) (tVar 2) (tVar 3)) [3]) tNil)) rfl scNear.nd (pi_list (pv 0)) (blkOk_by (by kernel_rfl)) (fun _ _ _ _ _ => pg_name (i := 2) scNear.nd rfl (Or.inr rfl)) (fun _ _ _ _ _ => pts_nil)
      (fun _ _ _ _ _ => pe_callB (cr_min rfl) (by rfl) T.b_min (by decide +kernel) (pa_cons (pe_lc (own := [("x", 3)]) (g := gName 3) (tt := tYes) rfl scNear.nd (pi_tup (pv 1)) (blkOk_by (by kernel_rfl)) (fun _ _ _ _ _ => pg_name (i := 3) scNear.nd rfl (Or.inl rfl)) (fun _ _ _ _ _ => pts_nil)
        (fun _ _ _ _ _ => pe_ix ix_list (pv 2) (pv 3) (fun _ _ => rfl))) pa_nil)))), ?_⟩
    exact s_retN (near_read hR hne hl1 hb fun σ H1 G v e te vs gt ht => elP_tup Stays.int same_mono (fun _ => true) G (evP_tup same_mono (ev_var v) (e _ _ hH) (rel_nV hs)) (by omega) fun x v H2 e2 hm hv => by
      subst hv
      exact ht x H2 e2 hm) fun p H1 hn e hp => q p H1 hn e hp
  · refine ⟨_, pss_one (ps_ret (pe_lc (own := [("row", 2)]) (g := gName 2) (tt := tYes) (te := tCB (rMin K) (tCons (tLc (iList K (tVar 1)) (gName 3) tYes (tOp (rIxL K) (tVar 2) (tVar 3)) [3]) tNil)) rfl scNear.nd (pi_list (pv 0)) (blkOk_by (by kernel_rfl)) (fun _ _ _ _ _ => pg_name (i := 2) scNear.nd rfl (Or.inr rfl)) (fun _ _ _ _ _ => pts_nil)
      (fun _ _ _ _ _ => pe_callB (cr_min rfl) (by rfl) T.b_min (by decide +kernel) (pa_cons (pe_lc (own := [("x", 3)]) (g := gName 3) (tt := tYes) rfl scNear.nd (pi_list (pv 1)) (blkOk_by (by kernel_rfl)) (fun _ _ _ _ _ => pg_name (i := 3) scNear.nd rfl (Or.inl rfl)) (fun _ _ _ _ _ => pts_nil)
        (fun _ _ _ _ _ => pe_ix ix_list (pv 2) (pv 3) (fun _ _ => rfl))) pa_nil)))), ?_⟩
    exact s_retN (near_read hR hne hl1 hb fun σ H1 G v e te vs gt ht => elP_lst Stays.int (fun _ => true) G (evP_lst same_mono (ev_var v) ⟨_, e _ _ hH, rel_nV hs⟩) (by omega) fun x v H2 e2 hm hv => by
      subst hv
      exact ht x H2 e2 hm) fun p H1 hn e hp => q p H1 hn e hp
end
end NH
namespace NH
open PySem L2 Evl
/-! ### zip(a tuple, a list): one walk of both -/
section
open PyProof.Rows
/-- at turn i: the items of the tuple at a and of the list at b in a new pair -/
def ItzM (K : PySem.W.Frag) (a b : Addr) : It :=
  ⟨fun i H => ∃ (xs ys : List V) (x y : V), SqT K H a xs ∧ SqL K H b ys ∧ xs.length = ys.length ∧ xs[i]? = some x ∧ ys[i]? = some y,
    fun i H v H' => ∃ T x y, v = .ref T ∧ H T = none ∧ H' = upd H T (.tup [x, y]) ∧ (∀ xs, SqT K H a xs → xs[i]? = some x) ∧ ∀ ys, SqL K H b ys → ys[i]? = some y,
    fun i H => ∃ xs ys : List V, SqT K H a xs ∧ SqL K H b ys ∧ xs.length = ys.length ∧ i = xs.length⟩
/-- the five cells of such a walk, apart from the tuple and the list -/
structure MixCells (z TI TO i1 i2 a b : Addr) (h : Heap) (i : Nat) : Prop where
  zip : IsZip h z TI TO .none
  ti : IsTupOf2 h TI (.ref i1) (.ref i2)
  to : ∃ u v, IsTupOf2 h TO u v
  it1 : h.IsTupleIter i1 a i
  it2 : h.IsListIter i2 b i
theorem mem5 {c z TI TO i1 i2 : Addr} (h : c ∈ [z, TI, TO, i1, i2]) : c = z ∨ c = TI ∨ c = TO ∨ c = i1 ∨ c = i2 := by simpa using h
theorem turn_mix {P : Program} {w : World} {K : PySem.W.Frag} {elts : List Expr} {kk : Nat} {tpos : Pos} {a b z TI TO i1 i2 : Addr} (D : ZipSep2 z TI TO i1 i2 [i1, a] [i2, b]) :
    Turn P w K (.Tuple elts kk tpos) (ItzM K a b) [z, TI, TO, i1, i2] z (fun i h => MixCells z TI TO i1 i2 a b h i) := by
  have d1 : ∀ {A : Around} {items : Array Value}, A.handled = none → a ≠ i1 → Draws P w A i1 [i1, a] items.size (fun i v => items[i]? = some v) (fun i h => h.IsTupleIter i1 a i ∧ h.IsTuple a items) := fun hh hne => Draws.tuple hh i1 a hne _
  have d2 : ∀ {A : Around} {items : Array Value}, A.handled = none → b ≠ i2 → Draws P w A i2 [i2, b] items.size (fun i v => items[i]? = some v) (fun i h => h.IsListIter i2 b i ∧ h.IsList b items) := fun hh hne => Draws.list hh i2 b hne _
  refine ⟨by simp, fun i h st c hc => ?_, fun i h h' st k => ?_, ?_, ?_, fun A i s Q E st h => wpAny_pyIter_zip st.zip h⟩
  · obtain ⟨o1, e1, _, q1⟩ := st.it1
    obtain ⟨o2, e2, _, q2⟩ := st.it2
    obtain ⟨u, v, hO⟩ := st.to
    rcases mem5 hc with rfl | rfl | rfl | rfl | rfl
    · exact ⟨_, st.zip, fun _ q => nomatch q⟩
    · exact ⟨_, st.ti, fun _ q => nomatch q⟩
    · exact ⟨_, hO, fun _ q => nomatch q⟩
    · exact ⟨o1, e1, fun _ q => by rw [q1] at q; cases q⟩
    · exact ⟨o2, e2, fun _ q => by rw [q2] at q; cases q⟩
  · obtain ⟨u, v, hO⟩ := st.to
    exact ⟨k z (by simp) _ st.zip, k TI (by simp) _ st.ti, ⟨u, v, k TO (by simp) _ hO⟩, st.it1.at fun o q => k i1 (by simp) o q, st.it2.at fun o q => k i2 (by simp) o q⟩
  · intro X hP hw hK hc i pins s σ H E I hf st hg
    subst hP hw hK
    obtain ⟨u, v, hO⟩ := st.to
    obtain ⟨xs, ys, x, y, hx, hy, _, hxi, hyi⟩ := hg
    obtain ⟨its, rv, p1, _⟩ := I.tuple hx
    obtain ⟨its2, rv2, p2, _⟩ := I.list hy
    have l1 : i < its.toArray.size := by rw [List.size_toArray, ← rv.length]; exact (List.getElem?_eq_some_iff.mp hxi).1
    have l2 : i < its2.toArray.size := by rw [List.size_toArray, ← rv2.length]; exact (List.getElem?_eq_some_iff.mp hyi).1
    have na : a ≠ i1 := fun e => by
      obtain ⟨_, q1, c1, _⟩ := st.it1
      obtain ⟨_, q2, c2, _⟩ := p1
      rw [e, q1] at q2
      cases q2
      rw [c1] at c2
      injection c2 with c3
      exact absurd c3 (by decide)
    have nb : b ≠ i2 := fun e => by
      obtain ⟨_, q1, c1, _⟩ := st.it2
      obtain ⟨_, q2, c2, _⟩ := p2.isList
      rw [e, q1] at q2
      cases q2
      rw [c1] at c2
      injection c2 with c3
      exact absurd c3 (by decide)
    refine wpAny_pyNext_zipD2_item D (d1 (I.ok.hd hc) na) (d2 (I.ok.hd hc) nb) st.zip st.ti hO ⟨st.it1, p1⟩ ⟨st.it2, p2.isList⟩ l1 l2 fun x1 x2 h' tk hx1 hx2 z' O' s1 s2 T' _ kk => ?_
    refine ⟨_, rfl, wpAny_letOwnedTupleGo_zip (s := { s with heap := h', toks := tk }) z' fun h2 z2 sb => ?_⟩
    obtain ⟨w1, hw1, r1⟩ := rv.get hxi
    obtain ⟨w2, hw2, r2⟩ := rv2.get hyi
    have e1 : x1 = w1 := Option.some.inj (hx1.symm.trans (by simpa using hw1))
    have e2 : x2 = w2 := Option.some.inj (hx2.symm.trans (by simpa using hw2))
    subst e1 e2
    have zl : z < s.heap.objs.size := Heap.lt_size st.zip
    have g2 : h2.get? s.heap.objs.size = some { cls := .type "tuple", data := .seq #[x1, x2] } := (sb.2 _ (Nat.ne_of_gt zl)).trans T'
    have two : (2 : Nat) ≤ sizeLine := by decide
    have nw : ObjOk X.prog X.w (upd H s.heap.objs.size (.tup [x, y])) h2 s.heap.objs.size (.tup [x, y]) := ⟨two, [x1, x2], .cons r1 (.cons r2 .nil), _, g2, rfl, _, rfl⟩
    have J : Inv X pins σ (upd H s.heap.objs.size (.tup [x, y])) { s with heap := h2, toks := tk } := I.turnedNew (ch := [z, TI, TO, i1, i2]) (fun c o hn q => by
      have n1 : c ≠ z := fun e => hn (by simp [e])
      exact (sb.2 c n1).trans (kk c o n1 (fun e => hn (by simp [e])) (fun e => hn (by simp [e])) (fun e => hn (by simp [e])) q)) hf (Nat.le_refl _) nw
    refine ⟨.ref s.heap.objs.size, _, J, rfl, ⟨_, x, y, rfl, I.hok.fresh (Nat.le_refl _), rfl, fun l hl => by rw [I.tuple_inj hl hx]; exact hxi, fun l hl => by rw [I.list_inj hl hy]; exact hyi⟩, ⟨z2, ?_, ⟨x1, x2, (sb.2 _ D.TOz).trans O'⟩, s1.1.at fun o q => (sb.2 _ D.zi1.symm).trans q, s2.1.at fun o q => (sb.2 _ D.zi2.symm).trans q⟩, fun c hm => ?_⟩
    · exact (sb.2 _ D.TIz).trans (kk _ _ D.TIz D.TITO D.TIi1 D.TIi2 st.ti)
    · have lt : c < s.heap.objs.size := by
        obtain ⟨_, q1, _⟩ := st.it1
        obtain ⟨_, q2, _⟩ := st.it2
        rcases mem5 hm with rfl | rfl | rfl | rfl | rfl
        · exact zl
        · exact Heap.lt_size st.ti
        · exact Heap.lt_size hO
        · exact Heap.lt_size q1
        · exact Heap.lt_size q2
      rw [upd_ne (Nat.ne_of_lt lt)]
      exact (hf c hm).1
  · intro X hP hw hK hc i pins s σ H E I hf st hg
    subst hP hw hK
    obtain ⟨u, v, hO⟩ := st.to
    obtain ⟨xs, ys, hx, hy, hl, hi⟩ := hg
    obtain ⟨its, rv, p1, _⟩ := I.tuple hx
    obtain ⟨its2, rv2, p2, _⟩ := I.list hy
    have l1 : its.toArray.size = i := by rw [List.size_toArray, ← rv.length]; exact hi.symm
    have l2 : its2.toArray.size = i := by rw [List.size_toArray, ← rv2.length, ← hl]; exact hi.symm
    have na : a ≠ i1 := fun e => by
      obtain ⟨_, q1, c1, _⟩ := st.it1
      obtain ⟨_, q2, c2, _⟩ := p1
      rw [e, q1] at q2
      cases q2
      rw [c1] at c2
      injection c2 with c3
      exact absurd c3 (by decide)
    have nb : b ≠ i2 := fun e => by
      obtain ⟨_, q1, c1, _⟩ := st.it2
      obtain ⟨_, q2, c2, _⟩ := p2.isList
      rw [e, q1] at q2
      cases q2
      rw [c1] at c2
      injection c2 with c3
      exact absurd c3 (by decide)
    exact wpAny_pyNext_zipD2_end D (d1 (items := its.toArray) (I.ok.hd hc) na) (d2 (items := its2.toArray) (I.ok.hd hc) nb) st.zip st.ti hO ⟨st.it1, p1⟩ ⟨st.it2, p2.isList⟩ (Nat.le_of_eq l1.symm) (Nat.le_of_eq l2.symm) (.inl l1.symm)
      fun h' tk kk => ⟨rfl, I.turnedL (ch := [z, TI, TO, i1, i2]) (fun c o hn q => kk c o (fun e => hn (by simp [e])) (fun e => hn (by simp [e])) (fun e => hn (by simp [e])) (fun e => hn (by simp [e])) q) hf⟩
def iZipM (K : PySem.W.Frag) (ta : TA) : TI := fun σ H R => ta σ H fun vs H1 => ∃ a b xs ys, vs = [.ref a, .ref b] ∧ SqT K H1 a xs ∧ SqL K H1 b ys ∧ R (ItzM K a b) H1
theorem pi_zipM {X : Cx} {e e2 : Expr} {ta : TA} {p pos tpos : Pos} {elts : List Expr} {kk : Nat} (hg : Gl X "zip") (hm : X.mg "zip" = none) (ha : PA X [e, e2] ta)
    (hs : starEach [e, e2] X.env = (false, eval e X.env) :: starEach [e2] X.env := by rfl) (hpl : (backTo pos (starEach [e2] X.env)).any (·.1) = false := by rfl) :
    PI X (.Tuple elts kk tpos) (.Call (.Name "zip" p) [e, e2] [] pos) (iZipM X.K ta) := by
  refine ⟨fun pins s σ H R I h => ?_⟩
  refine Call_ (ld_blt I hg hm PyProof.Rows.boot_zip (PyProof.Rows.callWith_type1 (thn (ha.run pos pins s σ H _ I h) fun us s1 hq => ?_) hs hpl))
  obtain ⟨vs, H1, I1, r1, a, b, xs, ys, ex, hx, hy, q⟩ := hq
  subst ex
  obtain ⟨u1, u2, rfl, ra, rb⟩ := vals2 r1
  cases ra
  cases rb
  obtain ⟨its, rv, p1, _⟩ := I1.tuple hx
  obtain ⟨its2, rv2, p2, _⟩ := I1.list hy
  have la : a < s1.heap.objs.size := by
    obtain ⟨_, q1, _⟩ := p1
    exact Heap.lt_size q1
  have lb : b < s1.heap.objs.size := by
    obtain ⟨_, q1, _⟩ := p2.isList
    exact Heap.lt_size q1
  refine zip_begins2 (begins_tuple a its.toArray) (begins_list b its2.toArray) p1 p2.isList fun h' hz hTI hTO g1 g2 _ kk => ?_
  refine wpAny_pyIter_zip hz ?_
  have sep : ZipSep2 (s1.heap.objs.size + 4) (s1.heap.objs.size + 2) (s1.heap.objs.size + 3) s1.heap.objs.size (s1.heap.objs.size + 1) [s1.heap.objs.size, a] [s1.heap.objs.size + 1, b] :=
    zip_sep2 (fp1 := [a]) (fp2 := [b]) (fun c hc => by rw [List.mem_singleton.mp hc]; exact la) (fun c hc => by rw [List.mem_singleton.mp hc]; exact lb)
  refine ⟨s1.heap.objs.size + 4, [s1.heap.objs.size + 4, s1.heap.objs.size + 2, s1.heap.objs.size + 3, s1.heap.objs.size, s1.heap.objs.size + 1], _, _, H1, rfl, I1.kept (t' := s1.toks) kk, turn_mix sep,
    ⟨hz, hTI, ⟨_, _, hTO⟩, ⟨_, g1, rfl, rfl⟩, ⟨_, g2, rfl, rfl⟩⟩, fun c hc => ?_, q⟩
  have le : s1.heap.objs.size ≤ c := by
    rcases mem5 hc with rfl | rfl | rfl | rfl | rfl
    · exact Nat.le_add_right _ _
    · exact Nat.le_add_right _ _
    · exact Nat.le_add_right _ _
    · exact Nat.le_refl _
    · exact Nat.le_add_right _ _
  exact I1.fpOk le (I1.hok.fresh le)

/-! ### enumerate(a tuple) -/
def IteT (K : PySem.W.Frag) (a : Addr) : It :=
  ⟨fun i H => ∃ (xs : List V) (x : V), SqT K H a xs ∧ xs[i]? = some x,
    fun i H v H' => ∃ T x, v = .ref T ∧ H T = none ∧ H' = upd H T (.tup [.int (i : Int), x]) ∧ ∀ xs, SqT K H a xs → xs[i]? = some x,
    fun i H => ∃ xs : List V, SqT K H a xs ∧ i = xs.length⟩
structure EnumCells (e it a : Addr) (h : Heap) (i : Nat) : Prop where
  en : ∃ old, IsEnum h e it (i : Int) old
  itr : h.IsTupleIter it a i
  ne : e ≠ it
theorem turn_enumT {P : Program} {w : World} {K : PySem.W.Frag} {elts : List Expr} {kk : Nat} {tpos : Pos} {a e it : Addr} (hea : e ≠ a) :
    Turn P w K (.Tuple elts kk tpos) (IteT K a) [e, it] e (fun i h => EnumCells e it a h i) := by
  have mem2 : ∀ {c : Addr}, c ∈ [e, it] → c = e ∨ c = it := fun h => by simpa using h
  refine ⟨by simp, fun i h st c hc => ?_, fun i h h' st k => ?_, ?_, ?_, fun A i s Q E st h => by
    obtain ⟨old, he⟩ := st.en
    exact wpAny_pyIter_enum he h⟩
  · obtain ⟨old, he⟩ := st.en
    obtain ⟨o1, e1, _, q1⟩ := st.itr
    rcases mem2 hc with rfl | rfl
    · exact ⟨_, he, fun _ q => nomatch q⟩
    · exact ⟨o1, e1, fun _ q => by rw [q1] at q; cases q⟩
  · obtain ⟨old, he⟩ := st.en
    exact ⟨⟨old, k e (by simp) _ he⟩, st.itr.at fun o q => k it (by simp) o q, st.ne⟩
  · intro X hP hw hK hc i pins s σ H E I hf st hg
    subst hP hw hK
    obtain ⟨old, he⟩ := st.en
    obtain ⟨xs, x, hx, hxi⟩ := hg
    obtain ⟨its, rv, p1, _⟩ := I.tuple hx
    have l1 : i < its.toArray.size := by rw [List.size_toArray, ← rv.length]; exact (List.getElem?_eq_some_iff.mp hxi).1
    have na : a ≠ it := fun z => by
      obtain ⟨_, q1, c1, _⟩ := st.itr
      obtain ⟨_, q2, c2, _⟩ := p1
      rw [z, q1] at q2
      cases q2
      rw [c1] at c2
      injection c2 with c3
      exact absurd c3 (by decide)
    have ef : e ∉ [it, a] := fun z => by
      rcases List.mem_cons.mp z with z | z
      · exact st.ne z
      · exact hea (List.mem_singleton.mp z)
    refine wpAny_pyNext_enum_itemD (Draws.tuple (A := X.A.in1) (I.ok.hd hc) it a na its.toArray) he ⟨st.itr, p1⟩ l1 st.ne ef fun x1 h' tk hx1 ho s1 T' _ kk => ?_
    refine ⟨_, rfl, wpAny_letOwnedTupleGo_enum (s := { s with heap := h', toks := tk + 1 }) ho fun h2 he2 sb => ?_⟩
    obtain ⟨w1, hw1, r1⟩ := rv.get hxi
    have e1 : x1 = w1 := Option.some.inj (hx1.symm.trans (by simpa using hw1))
    subst e1
    have el : e < s.heap.objs.size := Heap.lt_size he
    have g2 := (sb.2 _ (Nat.ne_of_gt el)).trans T'
    have two : (2 : Nat) ≤ sizeLine := by decide
    have nw : ObjOk X.prog X.w (upd H s.heap.objs.size (.tup [.int (i : Int), x])) h2 s.heap.objs.size (.tup [.int (i : Int), x]) := ⟨two, [.int i tk, x1], .cons ⟨_, rfl⟩ (.cons r1 .nil), _, g2, rfl, _, rfl⟩
    have J : Inv X pins σ (upd H s.heap.objs.size (.tup [.int (i : Int), x])) { s with heap := h2, toks := tk + 1 } := I.turnedNew (ch := [e, it]) (fun c o hn q => by
      have n1 : c ≠ e := fun z => hn (by simp [z])
      exact (sb.2 c n1).trans (kk c o n1 (fun z => hn (by simp [z])) q)) hf (Nat.le_refl _) nw
    refine ⟨.ref s.heap.objs.size, _, J, rfl, ⟨_, x, rfl, I.hok.fresh (Nat.le_refl _), rfl, fun l hl => by rw [I.tuple_inj hl hx]; exact hxi⟩, ⟨⟨x1, ?_⟩, s1.1.at fun o q => (sb.2 _ st.ne.symm).trans q, st.ne⟩, fun c hm => ?_⟩
    · have ei : ((i + 1 : Nat) : Int) = (i : Int) + 1 := by omega
      rw [ei]
      exact he2
    · have lt : c < s.heap.objs.size := by
        obtain ⟨_, q1, _⟩ := st.itr
        rcases mem2 hm with rfl | rfl
        · exact el
        · exact Heap.lt_size q1
      rw [upd_ne (Nat.ne_of_lt lt)]
      exact (hf c hm).1
  · intro X hP hw hK hc i pins s σ H E I hf st hg
    subst hP hw hK
    obtain ⟨old, he⟩ := st.en
    obtain ⟨xs, hx, hi⟩ := hg
    obtain ⟨its, rv, p1, _⟩ := I.tuple hx
    have l1 : its.toArray.size = i := by rw [List.size_toArray, ← rv.length]; exact hi.symm
    have na : a ≠ it := fun z => by
      obtain ⟨_, q1, c1, _⟩ := st.itr
      obtain ⟨_, q2, c2, _⟩ := p1
      rw [z, q1] at q2
      cases q2
      rw [c1] at c2
      injection c2 with c3
      exact absurd c3 (by decide)
    refine wpAny_pyNext_enum_endD (Draws.tuple (A := X.A.in1) (I.ok.hd hc) it a na its.toArray) he ⟨by rw [l1]; exact st.itr, p1⟩ fun h' eb => ⟨rfl, I.turnedL (t' := s.toks) (ch := [e, it]) (fun c o hn q => eb c o (fun z => hn (by simp [z])) q) hf⟩
theorem meets_enum1 {v : Value} {o : Obj} {Hh : Heap → Prop} (B : Begins v o Hh) :
    Meets (Builtin.«enumerate.__new__» ⟨[.type "enumerate", v], []⟩) (fun _ R s => Hh s.heap ∧
      R (.ok (.ret (.ref (s.heap.push o).objs.size))) { s with heap := (s.heap.push o).push { cls := .type "enumerate", data := .fields #[.none, .bool false, .ref s.heap.objs.size, rawInt 0, .none, .none] } }) := by
  refine .of_wp fun prog w A R s h => ?_
  obtain ⟨hp, g, d, tk, os⟩ := s
  obtain ⟨h1, h⟩ := h
  have hsub := sub_enumerate
  have q1 : ∀ {A' : Around} {E : Value → Shared → Prop} {Q : Value → Shared → Prop}, Q (.ref hp.objs.size) ⟨hp.push o, g, d, tk, os⟩ → wpAny (model prog w) A' (pyIter v) Q E ⟨hp, g, d, tk, os⟩ := fun q => B.iter prog w _ _ ⟨hp, g, d, tk, os⟩ _ h1 q
  wp_walk using q1
  refine wpAny_stack_any fun st => wpAny_pure ?_
  split
  · rename_i c _ _ _ _ _
    cases (c == Value.type "enumerate")
    all_goals
      wp_walk using q1
      exact ⟨_, rfl, h⟩
  · wp_walk using q1
    exact ⟨_, rfl, h⟩
theorem enum_begins1 {prog : Program} {w : World} {A : Around} {E : Value → Shared → Prop} {s : Shared} {v : Value} {o : Obj} {Hh : Heap → Prop} {Q : Value → Shared → Prop} (B : Begins v o Hh) (h1 : Hh s.heap)
    (h : ∀ h', IsEnum h' (s.heap.objs.size + 1) s.heap.objs.size 0 .none → h'.get? s.heap.objs.size = some o → (∀ b u, s.heap.get? b = some u → h'.get? b = some u) → Q (.ref (s.heap.objs.size + 1)) { s with heap := h' }) :
    wpAny (model prog w) A (call (.type "enumerate") [v]) Q E s := by
  refine callType_new F.called_enumerate (by decide) (F.typeCall_enumerate_1 _) (F.newCall_enumerate_1 _) (fun obj => F.args_object_init_2 obj _) F.entry_enumerate_new (meets_enum1 B) ⟨h1, ?_⟩
  have hz : (s.heap.push o).objs.size = s.heap.objs.size + 1 := Heap.size_push ..
  show _ ∧ _
  rw [hz]
  have he := Heap.get?_push_size (s.heap.push o) (o := { cls := .type "enumerate", data := .fields #[.none, .bool false, .ref s.heap.objs.size, rawInt 0, .none, .none] }) rfl
  rw [hz] at he
  exact ⟨⟨_, he, rfl⟩, h _ he (Heap.get?_push_of_some _ (Heap.get?_push_size _ B.free)) fun b u x => Heap.get?_push_of_some _ (Heap.get?_push_of_some _ x)⟩
def iEnumT (K : PySem.W.Frag) (ta : TA) : TI := fun σ H R => ta σ H fun vs H1 => ∃ a xs, vs = [.ref a] ∧ SqT K H1 a xs ∧ R (IteT K a) H1
theorem pi_enumT {X : Cx} {e : Expr} {ta : TA} {p pos tpos : Pos} {elts : List Expr} {kk : Nat} (hg : Gl X "enumerate") (hm : X.mg "enumerate" = none) (ha : PA X [e] ta) (hs : starEach [e] X.env = [(false, eval e X.env)] := by rfl) :
    PI X (.Tuple elts kk tpos) (.Call (.Name "enumerate" p) [e] [] pos) (iEnumT X.K ta) := by
  refine ⟨fun pins s σ H R I h => ?_⟩
  refine Call_ (ld_blt I hg hm boot_enumerate (PyProof.Rows.callWith_type1 (thn (ha.run pos pins s σ H _ I h) fun us s1 hq => ?_) hs rfl))
  obtain ⟨vs, H1, I1, r1, a, xs, ex, hx, q⟩ := hq
  subst ex
  obtain rfl := Vals.ref1 r1
  obtain ⟨its, rv, p1, _⟩ := I1.tuple hx
  have la : a < s1.heap.objs.size := by
    obtain ⟨_, q1, _⟩ := p1
    exact Heap.lt_size q1
  refine enum_begins1 (begins_tuple a its.toArray) p1 fun h' he g1 kk => ?_
  refine wpAny_pyIter_enum he ?_
  have nea : s1.heap.objs.size + 1 ≠ a := Nat.ne_of_gt (Nat.lt_succ_of_lt la)
  refine ⟨s1.heap.objs.size + 1, [s1.heap.objs.size + 1, s1.heap.objs.size], _, _, H1, rfl, I1.kept (t' := s1.toks) kk, turn_enumT (it := s1.heap.objs.size) nea, ⟨⟨_, he⟩, ⟨_, g1, rfl, rfl⟩, Nat.succ_ne_self _⟩, fun c hc => ?_, q⟩
  have le : s1.heap.objs.size ≤ c := by
    have z : c = s1.heap.objs.size + 1 ∨ c = s1.heap.objs.size := by simpa using hc
    rcases z with rfl | rfl
    · exact Nat.le_add_right _ _
    · exact Nat.le_refl _
  exact I1.fpOk le (I1.hok.fresh le)
end
end NH
namespace NH
open PySem L2 Evl
section
open PyProof.Rows PySem.W
variable {X : Cx}
/-- sum of a tuple of ints -/
def rSumT (K : PySem.W.Frag) : List V → Hp → VK → Prop := fun vs H Q => ∃ (a : Addr) (ns : List Int), vs = [V.ref a] ∧ SqT K H a (ns.map V.int) ∧ Q (.int ns.sum) H
theorem cr_sumT (hc : X.calm = true) : CallR X (.builtin "sum") (rSumT X.K) := by
  intro pins s σ H vs us Q I r h
  obtain ⟨a, ns, rfl, hs, q⟩ := h
  obtain ⟨its, rv, hl, _⟩ := I.tuple hs
  rw [Vals.ref1 r]
  obtain ⟨xs, hx⟩ := rv.ints.allInts.items
  have hn : numsOf its.toArray.toList = ns := by rw [show its.toArray.toList = its from rfl, rv.ints.numsOf]
  rw [hx] at hl hn
  rw [nums_intItems] at hn
  refine ktm_sumG (I.ok.hd hc) hl fun h' tk t' hk => ?_
  rw [preSum_eq, List.take_of_length_le (by simp), hn]
  exact ⟨.int _, H, I.kept hk, ⟨_, rfl⟩, q⟩
/-- min of a list of alike data: the item that is least -/
def rMinD (K : PySem.W.Frag) : List V → Hp → VK → Prop := fun vs H Q => ∃ (a : Addr) (xs : List V) (d : PyData) (ds : List PyData), vs = [V.ref a] ∧ SqL K H a xs ∧ DpAll K H xs (d :: ds) ∧ AlikeAll (d :: ds) ∧ PyData.depthAll (d :: ds) ≤ 4 ∧
  ∀ (i : Nat) (v : V), xs[i]? = some v → (d :: ds)[i]? = some (minD d ds) → Q v H
theorem readsAll_len' {h : Heap} : ∀ {vs : List Value} {ds : List PyData} {as : List Addr}, ReadsAll h vs ds as → vs.length = ds.length
  | _, _, _, .nil => rfl
  | _, _, _, .cons _ t => congrArg (· + 1) (readsAll_len' t)
theorem readsAll_get {h : Heap} : ∀ {vs : List Value} {ds : List PyData} {as : List Addr}, ReadsAll h vs ds as → ∀ {i : Nat} {v : Value}, vs[i]? = some v → ∃ d bs, ds[i]? = some d ∧ Reads h v d bs
  | _, _, _, .nil, i, v, e => by simp at e
  | _, _, _, .cons r t, 0, v, e => by
    cases e
    exact ⟨_, _, rfl, r⟩
  | _, _, _, .cons r t, i + 1, v, e => readsAll_get t (i := i) e
theorem vals_get' : ∀ {xs : List V} {us : List Value}, Vals xs us → ∀ {i : Nat} {u : Value}, us[i]? = some u → ∃ x, xs[i]? = some x ∧ RelV x u
  | _, _, .nil, i, u, e => by simp at e
  | _, _, .cons r t, 0, u, e => by
    cases e
    exact ⟨_, rfl, r⟩
  | _, _, .cons r t, i + 1, u, e => vals_get' t (i := i) e
theorem cr_minD (hc : X.calm = true) (hu : X.A.units + 6 < cLine) : CallR X (.builtin "min") (rMinD X.K) := by
  intro pins s σ H vs us Q I r h
  obtain ⟨a, xs, d, ds, rfl, hs, hd, hal, hdp, q⟩ := h
  obtain ⟨its, rv, hl, _⟩ := I.list hs
  rw [Vals.ref1 r]
  obtain ⟨as, ra⟩ := Dp.readsAll I (d :: ds) xs its hd rv
  refine min_list_data (I.ok.hd hc) hl.isList (x := d) (xs := ds) (as := as) ra hal (by omega) fun i v h' tk bs hv rd hk => ?_
  have hv' : its[i]? = some v := by simpa using hv
  obtain ⟨x, hx, rx⟩ := vals_get' rv hv'
  obtain ⟨e, cs, he, re⟩ := readsAll_get ra hv'
  have e1 := (reads_det (fun b o ho _ => hk b o ho) re rd).1
  rw [← e1] at he
  exact ⟨x, H, I.kept hk, rx, q i x hx he⟩
/-- set(a tuple of ints) -/
def rSetT (K : PySem.W.Frag) (w : World) : List V → Hp → VK → Prop := fun vs H Q => ∃ (a : Addr) (ns : List Int), vs = [V.ref a] ∧ SqT K H a (ns.map V.int) ∧ ns.length ≤ 1000 ∧
  ∀ (p : Addr) (c : Nat), c ≤ ns.length → H p = none → Q (.ref p) (upd H p (SetO w p (fun j => decide (j ∈ ns)) c))
theorem cr_setT (hc : X.calm = true) : CallR X (.type "set") (rSetT X.K X.w) := by
  intro pins s σ H vs us Q I r h
  obtain ⟨a, ns, rfl, hs, hz, q⟩ := h
  obtain ⟨its, rv, pt, _⟩ := I.tuple hs
  rw [Vals.ref1 r]
  have hi : IntsAre its.toArray.toList ns := rv.ints
  refine call_set_tupI ns (I.ok.hd hc) (show s.heap.IsTuple a its.toArray from pt) hi (by unfold scanBound; omega) fun h' tk c R hcn hk => ?_
  exact ⟨.ref s.heap.objs.size, upd H s.heap.objs.size (SetO X.w s.heap.objs.size (fun j => decide (j ∈ ns)) c), I.laid hk (Nat.le_refl _) (setO_new R), rfl, q _ c hcn (I.hok.fresh (Nat.le_refl _))⟩
end
end NH
namespace NH
open PySem L2 Evl
section
open PyProof.Rows PySem.W
variable {X : Cx}
theorem each_of {α β : Type} {F : α → β → Prop} : ∀ {xs : List β} {us : List α}, Paired (fun x u => F u x) xs us → EachIs F us xs
  | _, _, .nil => .nil
  | _, _, .cons r t => .cons r (each_of t)
theorem vals_of_each {β : Type} {g : β → V} : ∀ {us : List Value} {bs : List β}, EachIs (fun u b => RelV (g b) u) us bs → Vals (bs.map g) us
  | _, _, .nil => .nil
  | _, _, .cons r t => .cons r (vals_of_each t)
theorem vals_zip {F : PyData → V → Value → Prop} : ∀ {xs : List V} {us : List Value} {ds : List PyData}, Vals xs us → xs.length = ds.length → (∀ (i : Nat) x u d, xs[i]? = some x → us[i]? = some u → ds[i]? = some d → RelV x u → F d x u) →
    EachIs (fun u (p : V × PyData) => F p.2 p.1 u) us (xs.zip ds)
  | _, _, [], .nil, _, _ => .nil
  | _, _, _ :: _, .nil, e, _ => by cases e
  | _, _, [], .cons _ _, e, _ => by cases e
  | _, _, d :: ds, .cons r t, e, h => .cons (h 0 _ _ _ rfl rfl rfl r) (vals_zip t (Nat.succ.inj e) fun i x u d' h1 h2 h3 => h (i + 1) x u d' h1 h2 h3)
theorem dpAll_len {K : PySem.W.Frag} {H : Hp} : ∀ {xs : List V} {ds : List PyData}, DpAll K H xs ds → xs.length = ds.length
  | _, _, .nil => rfl
  | _, _, .cons _ t => congrArg (· + 1) (dpAll_len t)
theorem zip_fst {α β : Type} : ∀ {xs : List α} {ds : List β}, xs.length = ds.length → (xs.zip ds).map (·.1) = xs
  | [], [], _ => rfl
  | [], _ :: _, e => by cases e
  | _ :: _, [], e => by cases e
  | x :: xs, d :: ds, e => congrArg (x :: ·) (zip_fst (Nat.succ.inj e))
theorem zip_snd {α β : Type} : ∀ {xs : List α} {ds : List β}, xs.length = ds.length → (xs.zip ds).map (·.2) = ds
  | [], [], _ => rfl
  | [], _ :: _, e => by cases e
  | _ :: _, [], e => by cases e
  | x :: xs, d :: ds, e => congrArg (d :: ·) (zip_snd (Nat.succ.inj e))
/-- sorted of a list of alike data: some arrangement of it -/
def rSortedD (K : PySem.W.Frag) : List V → Hp → VK → Prop := fun vs H Q => ∃ (a : Addr) (xs : List V) (ds : List PyData), vs = [V.ref a] ∧ SqL K H a xs ∧ DpAll K H xs ds ∧ AllAlike ds ∧ Sortable ds ∧ (∀ d ∈ ds, d.depth ≤ 4) ∧
  ∀ (ys : List V) (p : Addr), ys.Perm xs → H p = none → Q (.ref p) (upd H p (.lst ys))
theorem cr_sortedD (hu : X.A.units + 8 < cLine) : CallR X (.builtin "sorted") (rSortedD X.K) := by
  intro pins s σ H vs us Q I r h
  obtain ⟨a, xs, ds, rfl, hs, hd, hal, hso, hdp, q⟩ := h
  obtain ⟨its, rv, hl, hz⟩ := I.list hs
  rw [Vals.ref1 r]
  have el := dpAll_len hd
  obtain ⟨as, ra⟩ := Dp.readsAll I ds xs its hd rv
  have e2 : (xs.zip ds).map (fun p => p.2) = ds := zip_snd el
  have er : EachIs (fun u (p : V × PyData) => ∃ as, Reads s.heap u p.2 as) its (xs.zip ds) := vals_zip (F := fun d _ u => ∃ as, Reads s.heap u d as) rv el fun i x u d h1 h2 h3 _ => by
    obtain ⟨d', bs, g1, g2⟩ := readsAll_get ra h2
    rw [h3] at g1
    cases g1
    exact ⟨bs, g2⟩
  have hlen : (xs.zip ds).length = xs.length := by rw [List.length_zip, el, Nat.min_self]
  refine sorted_data (bs := xs.zip ds) (enc := fun p => p.2) (R := fun u (p : V × PyData) => RelV p.1 u) hl.isList (vals_zip (F := fun _ x u => RelV x u) rv el fun _ _ _ _ _ _ _ r => r) er (by rw [e2]; exact hal) (by rw [e2]; exact hso) (by rw [hlen]; exact hz) (fun b hb => ?_) fun out ho eo => ?_
  · have := hdp b.2 (by rw [← e2]; exact List.mem_map.mpr ⟨b, hb, rfl⟩)
    omega
  · have pm : ((xs.zip ds).mergeSort (dataLe false fun p => p.2)).Perm (xs.zip ds) := List.mergeSort_perm _ _
    have pv : (((xs.zip ds).mergeSort (dataLe false fun p => p.2)).map (·.1)).Perm xs := by
      have z := pm.map (·.1)
      rw [zip_fst el] at z
      exact z
    obtain ⟨ep, he'⟩ := sortedAll_at s.heap its out.toArray
    exact ⟨.ref _, upd H (s.heap.objs.size + 1) (.lst (((xs.zip ds).mergeSort (dataLe false fun p => p.2)).map (·.1))), I.laid (t' := s.toks) (fun _ _ => sortedAll_old) (Nat.le_succ _) ⟨by rw [pv.length_eq]; exact hz, out, ep, vals_of_each eo, he'⟩, rfl, q _ _ pv (I.hok.fresh (Nat.le_succ _))⟩
/-- how long the tuple at a value is -/
def lenAt (H : Hp) : V → Nat
  | .ref t => match H t with
    | some (.tup ys) => ys.length
    | _ => 0
  | _ => 0
/-- sorted(list of tuples, key=len): some arrangement of it -/
def tSortLen (K : PySem.W.Frag) (ta : TA) : TE := fun σ H Q => ta σ H fun vs H1 => ∃ (a : Addr) (xs : List V), vs = [V.ref a] ∧ SqL K H1 a xs ∧ (∀ x ∈ xs, ∃ t ys, x = V.ref t ∧ H1 t = some (.tup ys)) ∧
  ∀ (ys : List V) (p : Addr), ys.Perm xs → H1 p = none → Q (.ref p) (upd H1 p (.lst ys))
theorem pe_sortLen {e : Expr} {p p2 pos kpos : Pos} {ta : TA} (hu : X.A.units + 8 < cLine) (hg : Gl X "sorted") (hm : X.mg "sorted" = none) (hg2 : Gl X "len") (hm2 : X.mg "len" = none) (ha : PA X [e] ta)
    (he : backTo pos (starEach [e] X.env) = (false, eval e X.env) :: backTo pos (starEach [] X.env) := by rfl) (hpl : (backTo pos (starEach [e] X.env)).any (·.1) = false := by rfl) :
    PE X (.Call (.Name "sorted" p) [e] [⟨some (Str.ofString "key"), .Name "len" p2, kpos⟩] pos) (tSortLen X.K ta) := by
  refine ⟨fun pins s σ H Q I h => ?_⟩
  refine wpAny_Call_Name_kw (ld_blt I hg hm boot_sorted ?_)
  refine PyProof.Rows.callWith_kw (thn (ha.run pos pins s σ H _ I h) fun us s1 hq => ?_) he hpl
  obtain ⟨vs, H1, I1, r1, a, xs, ex, hs, hx, q⟩ := hq
  subst ex
  obtain rfl := Vals.ref1 r1
  show wpAny _ _ (evalAll [do let v ← eval (.Name "len" p2) X.env; standAt pos; pure v]) _ _ s1
  refine wpAny_evalAll_cons (wpAny_bind (ld_blt I1 hg2 hm2 PySem.boot_len (wpAny_bind (wpAny_standAt (wpAny_pure (wpAny_evalAll_nil ?_))))))
  obtain ⟨its, rv, hl, hz⟩ := I1.list hs
  show wpAny _ _ (call (.builtin "sorted") [.ref a] [(Str.ofString "key", .builtin "len")]) _ _ s1
  have e0 : EachIs (fun u (x : V) => RelV x u) its xs := each_of rv
  refine sorted_key_data (b := false) (fun x : V => PyData.int (lenAt H1 x : Nat)) hl.isList e0 (AllAlike.of fun _ _ => by simp [alike]) (Sortable.others fun _ => ⟨(by intro z; cases z), (by intro _ z; cases z)⟩) hz (fun x hm => ?_) (ksk_s1 _ _) (fun _ => ksk_l1 _ _) (fun x => ksk_t4 _ _) (fun u x rx hm h tk hk => ?_) fun out c h' tk hk hf hD ho eo => ?_
  · have : (PyData.int (lenAt H1 x : Nat)).depth = 0 := rfl
    omega
  · obtain ⟨t, ys, ex, ht⟩ := hx x hm
    subst ex
    cases rx
    obtain ⟨jt, rt, pt, hzt⟩ := I1.tuple (st_of ht)
    have hn := line63
    have hle := rt.length
    have pt' : IsTup h t jt.toArray := by
      obtain ⟨o, ho, r⟩ := pt
      exact ⟨o, hk _ _ ho, r⟩
    refine len_tuple (s := { s1 with heap := h, toks := tk }) pt' (by simp only [List.size_toArray] <;> omega) ?_
    have ez : lenAt H1 (.ref t) = ys.length := by
      show (match H1 t with | some (.tup ys) => ys.length | _ => 0) = ys.length
      rw [ht]
    rw [ez]
    refine ⟨h, tk + 1 + 1, rfl, fun _ _ z => z, ?_⟩
    rw [List.size_toArray, ← hle]
    exact .int _ _
  · have pm : (xs.mergeSort (dataLe false fun x : V => PyData.int (lenAt H1 x : Nat))).Perm xs := List.mergeSort_perm _ _
    have vo : Vals (xs.mergeSort (dataLe false fun x : V => PyData.int (lenAt H1 x : Nat))) out := by
      have z := vals_of_each (g := id) eo
      rw [List.map_id] at z
      exact z
    exact ⟨.ref _, upd H1 (s1.heap.objs.size + 1) (.lst (xs.mergeSort (dataLe false fun x : V => PyData.int (lenAt H1 x : Nat)))), I1.laid hk (Nat.le_succ _) ⟨by rw [pm.length_eq]; exact hz, out, c, vo, hD⟩, rfl, q _ _ pm (I1.hok.fresh (Nat.le_succ _))⟩
end
end NH
namespace NH
open PySem L2 Evl
/-! ### a comprehension over zip(a tuple, a new list of ints) -/
section
variable {β : Type} {R : β → V → Hp → Prop} {K : PySem.W.Frag} {σ : L2.St} {H : Hp} {tt : TT} {te : TE} {gt : TG} {vs : List Nat}
theorem elP_zipM (S : Stays R) {ta : TA} {a : Addr} {ws ns : List Int} (F : Int → Int → β) (ha : H a = some (.tup (ws.map V.int))) (hl : ws.length = ns.length) (hz : ns.length ≤ 40000)
    (h : ∀ H1, Ex H H1 → ∀ Q : List V → Hp → Prop, (∀ p H2, Ex H1 H2 → H2 p = some (.lst (ns.map V.int)) → Q [.ref a, .ref p] H2) → ta σ H1 Q)
    (ht : ∀ (x y : Int) (T : Addr) H1, Ex H H1 → x ∈ ws → H1 T = some (.tup [.int x, .int y]) → LcTurn R gt tt te vs σ H1 (.ref T) true (F x y)) :
    EvN (tLc (iZipM K ta) gt tt te vs) σ H (LstOf R ((ws.zip ns).map fun p => F p.1 p.2)) := fun H0 e Q q => h H0 e _ fun b H1 e1 hb => by
  have ha1 : H1 a = some (.tup (ws.map V.int)) := e1 _ _ (e _ _ ha)
  refine ⟨a, b, _, _, rfl, st_of ha1, sq_of hb, fun Dl hD => ?_⟩
  have ez : gives ws.length (fun _ => true) (fun i => F (ws.getD i 0) (ns.getD i 0)) = (ws.zip ns).map fun p => F p.1 p.2 := by
    unfold gives
    rw [List.filter_eq_self.mpr fun _ _ => rfl]
    apply List.ext_getElem
    · simp [hl]
    · intro i h1 h2
      have hi : i < ws.length := by simpa using h1
      simp [hi, hl ▸ hi]
  rw [← ez] at q
  refine ⟨fun i m H' => m = ws.length - i ∧ i ≤ ws.length ∧ CwP R H1 (fun _ => true) (fun i => F (ws.getD i 0) (ns.getD i 0)) Dl i H', ⟨ws.length, by simp, Nat.zero_le _, hD, Ex.new hD, [], upd_same, .nil⟩, ?_⟩
  rintro i m H' ⟨rfl, hi, p⟩
  have qa : SqT K H' a (ws.map V.int) := st_of (p.2.1 _ _ ha1)
  have qb : SqL K H' b (ns.map V.int) := sq_of (p.2.1 _ _ hb)
  have len : (ws.map V.int).length = (ns.map V.int).length := by rw [List.length_map, List.length_map, hl]
  by_cases hlt : i < ws.length
  · refine .inr ⟨⟨_, _, _, _, qa, qb, len, ix_int hlt, ix_int (hl ▸ hlt)⟩, CwP R H1 (fun _ => true) (fun i => F (ws.getD i 0) (ns.getD i 0)) Dl (i + 1), fun H2 p2 => ⟨ws.length - (i + 1), by omega, rfl, hlt, p2⟩, fun x H2 hy => ?_⟩
    obtain ⟨T, x1, x2, rfl, nT, rfl, f1, f2⟩ := hy
    have e1' : x1 = .int (ws.getD i 0) := Option.some.inj ((f1 _ qa).symm.trans (ix_int hlt))
    have e2' : x2 = .int (ns.getD i 0) := Option.some.inj ((f2 _ qb).symm.trans (ix_int (hl ▸ hlt)))
    subst e1' e2'
    obtain ⟨p1, p2, ys, p3, p4⟩ := p
    have eT : Ex H' (upd H' T (.tup [.int (ws.getD i 0), .int (ns.getD i 0)])) := Ex.new nT
    exact LcTurn.go' S (Hb := upd H' T (.tup [.int (ws.getD i 0), .int (ns.getD i 0)])) (f := fun _ => true) (g := fun i => F (ws.getD i 0) (ns.getD i 0)) (ht _ _ T _ (e.trans (e1.trans (p2.trans eT))) (by rw [List.getD_eq_getElem?_getD, List.getElem?_eq_getElem hlt]; exact List.getElem_mem hlt) upd_same) ⟨p1, p2.trans eT, ys, eT _ _ p3, p4.mono S.mono eT⟩ (Ex.refl _) (by omega)
  · have ei : i = ws.length := by omega
    subst ei
    exact .inl ⟨⟨_, _, qa, qb, len, (List.length_map ..).symm⟩, q Dl H' (fresh_back e1 p.1) (e1.trans p.2.1) p.2.2⟩
/-- a pair unpacked into two names -/
theorem lcTurn_pair {i j : Nat} {T : Addr} {x y : V} {b : Bool} {z : β} (hT : H T = some (.tup [x, y])) (hw : wipe (((wipe σ vs).set i (some x)).set j (some y)) vs = wipe σ vs) (ht : EvT tt (((wipe σ vs).set i (some x)).set j (some y)) H b)
    (he : b = true → EvP te (((wipe σ vs).set i (some x)).set j (some y)) H (R z)) : LcTurn R (gTup K 2 (gCons (gName i) (gCons (gName j) gNil))) tt te vs σ H (.ref T) b z :=
  ⟨_, fun H1 _ e q => ⟨T, _, rfl, st_of (e _ _ hT), rfl, x, [y], rfl, y, [], rfl, rfl, q⟩, hw, ht, he⟩
end
end NH
namespace NH
open PySem L2 Evl
section
variable {P : Program} {w : World} {K : PySem.W.Frag} {mg : Str → Option Value} {base : Heap} {f : Addr} {fd : FuncData}
def spSum : Sp := fun vs H Q _ => ∃ pw pr ph ws rows hs, vs = [.ref pw, .ref pr, .ref ph] ∧ H pw = some (.tup (ws.map V.int)) ∧ RowsAt H pr rows ∧ HsAt H ph hs ∧ hs ≠ [] ∧ rows.length ≤ 1000 ∧ hs.length ≤ 1000 ∧ (∀ row ∈ rows, ∀ x ∈ hs, x < row.length) ∧
  ws.length = rows.length ∧ (∀ x ∈ ws, 0 ≤ x ∧ x ≤ 100) ∧ ∀ H', Ex H H' → Q (.int (cost ws rows hs)) H'
theorem scSum : FnScope ["weights", "rows", "houses", "one", "far"] ["weights", "rows", "houses"] (defScope s_sum_in) := ⟨rfl, rfl, rfl, by decide +kernel, rfl, by decide +kernel, by decide +kernel⟩
theorem ok_sum (T : Txt K mg) (C : Cl P w K mg base "near_in" 1 ["rows", "houses"] spNear) (F : Fun K "sum_in" "sum_in" s_sum_in f fd) : FnOk P w K mg base CX0 2 f fd ["weights", "rows", "houses"] spSum := by
  refine F.ok scSum (fun vs H Q E h => ?_) (fun cdv A outer s H vs Q E hr h => ?_)
  · obtain ⟨_, _, _, _, _, _, rfl, _⟩ := h
    rfl
  obtain ⟨pw, pr, ph, ws, rows, hs, rfl, hW, hR, hH, hne, hl1, hl2, hb, hl, hw, q⟩ := h
  refine ⟨_, pss_one (ps_ret (pe_callB (cr_sum rfl) (by rfl) T.b_sum (by decide +kernel) (pa_cons
    (pe_lc (own := [("one", 3), ("far", 4)]) (tt := tYes) (g := gTup K 2 (gCons (gName 3) (gCons (gName 4) gNil))) (te := tOp (rI CMul fun i j => .int (i * j)) (tVar 3) (tVar 4)) rfl scSum.nd
      (pi_zipM (by rfl) T.b_zip (pa_cons (pv 0) (pa_cons (pe_cl C hr (by rfl) (pa_cons (pv 1) (pa_cons (pv 2) pa_nil))) pa_nil))) (blkOk_by (by kernel_rfl))
      (fun _ _ _ _ _ => pg_tup rfl (pgs_cons (pg_name (i := 3) scSum.nd rfl (Or.inl rfl)) (pgs_cons (pg_name (i := 4) scSum.nd rfl (Or.inl rfl)) pgs_nil))) (fun _ _ _ _ _ => pts_nil)
      (fun _ _ _ _ _ => pe_op op_mul (pv 3) (pv 4))) pa_nil))), ?_⟩
  have hn : (near rows hs).length = ws.length := by rw [near_len, hl]
  have key : EvN _ _ H (fun p H' => H' p = some (.lst (((ws.zip (near rows hs)).map fun p => p.1 * p.2).map V.int))) := (elP_zipM (K := K) (R := fun (b : Int) v _ => v = .int b) (tt := tYes) (gt := gTup K 2 (gCons (gName 3) (gCons (gName 4) gNil))) (te := tOp (rI CMul fun i j => .int (i * j)) (tVar 3) (tVar 4)) (vs := [3, 4])
    (ta := tCons (tVar 0) (tCons (tCall spNear [] E0 (tCons (tVar 1) (tCons (tVar 2) tNil))) tNil)) (σ := [some (.ref pw), some (.ref pr), some (.ref ph), none, none]) (H := H) Stays.int (fun x y => x * y) hW hn.symm (by omega) ?_ ?_).imp fun p H' _ h => h.ints
  · exact s_ret (ev_sumN key) fun H1 e => q H1 e
  · intro H1 e Q' q'
    refine ⟨_, rfl, _, rfl, _, rfl, pr, ph, rows, hs, rfl, hR.mono e, hH.mono e, hne, hl1, hl2, hb, fun p H' _ e2 hp => q' p H' e2 hp⟩
  · intro x y T H1 e hx hT
    obtain ⟨h1, h2⟩ := hw x hx
    exact lcTurn_pair hT rfl evT_yes fun _ => ev_p (ev_op (ev_var rfl) (ev_var rfl) (rv_I (.inl ⟨by omega, by omega⟩)))
end
end NH
namespace NH
open PySem L2 Evl
/-! ### small readings -/
section
variable {K : PySem.W.Frag} {σ : L2.St} {H : Hp} {tu : TS} {D : Ends} {ta te : TE} {c d : TT}
/-- isinstance that is known -/
theorem ev_isi {x : V} {a n : String} {b : Bool} {tc : TE} (hx : Ev te σ H x) (hc : Ev tc σ H (.ty n)) (ty : ∀ H1, Ex H H1 → TyOf K H1 x (.type a)) (hk : kitB a n = some b) : Ev (tCB (rIsi K) (tCons te (tCons tc tNil))) σ H (.bl b) := fun H1 e Q q =>
  hx H1 e _ fun H2 e2 => hc H2 (e.trans e2) _ fun H3 e3 => ⟨_, _, _, _, b, rfl, .ty n, .base (ty H3 ((e.trans e2).trans e3)), kit_ty hk, q H3 (e2.trans e3)⟩
theorem ty_tup {p : Addr} {xs : List V} (h : H p = some (.tup xs)) : ∀ H1, Ex H H1 → TyOf K H1 (.ref p) (.type "tuple") := fun _ e => .tup (e _ _ h)
theorem ty_lst {p : Addr} {xs : List V} (h : H p = some (.lst xs)) : ∀ H1, Ex H H1 → TyOf K H1 (.ref p) (.type "list") := fun _ e => .lst (e _ _ h)
theorem ty_int {i : Int} : ∀ H1, Ex H H1 → TyOf K H1 (.int i) (.type "int") := fun _ _ => .int i
theorem ty_bl {b : Bool} : ∀ H1, Ex H H1 → TyOf K H1 (.bl b) (.type "bool") := fun _ _ => .bl b
/-- a test that is the value of a comparison -/
theorem et_cmp {x y : V} {r : R2} {b : Bool} (hx : Ev ta σ H x) (hy : Ev te σ H y) (hr : RV r x y H (.bl b)) : EvT (tTest (tOp r ta te)) σ H b := et_test (ev_op hx hy hr)
theorem rv_eqI {i j : Int} : RV rEq (.int i) (.int j) H (.bl (decide (V.int i = V.int j))) := rv_eq rfl
theorem dec_int (i j : Int) : decide (V.int i = V.int j) = decide (i = j) := decide_eq_decide.mpr ⟨fun h => V.int.inj h, fun h => by rw [h]⟩
theorem dec_nat (i j : Nat) : decide (V.int (i : Int) = V.int (j : Int)) = decide (i = j) := decide_eq_decide.mpr ⟨fun h => by have := V.int.inj h; omega, fun h => by rw [h]⟩
/-- a guard that doesn't hold: if c: raise .. -/
theorem q_guard {tz tv : TS} (h : EvT c σ H false) (k : ∀ H1, Ex H H1 → tz D σ H1) : tSeq (tIfS c tv tNext) tz D σ H := q_when h (fun z => by cases z) fun _ => k
theorem s_guard {tv : TS} (h : EvT c σ H false) (k : ∀ H1, Ex H H1 → D.nx σ H1) : tIfS c tv tNext D σ H := s_when h (fun z => by cases z) fun _ => k
theorem ev_and3 {a b : Bool} {tb : TE} (h1 : Ev ta σ H (.bl a)) (h2 : a = true → Ev tb σ H (.bl b)) : Ev (tAndV ta tb) σ H (.bl (a && b)) := ev_andV h1 h2
/-- the answer of a def that gives a value and may lay new objects -/
theorem ev_cl {sp : Sp} {vs : List V} {E : XK} {tv : TA} {v : V} (h : EvA tv σ H vs) (hs : ∀ H1, Ex H H1 → ∀ Q : VK, (∀ H2, Ex H1 H2 → Q v H2) → sp vs H1 Q E) : Ev (tCall sp [] E tv) σ H v := fun H1 e Q q =>
  h H1 e _ fun H2 e2 => by
    show sp (vs ++ []) H2 Q E
    rw [List.append_nil]
    exact hs H2 (e.trans e2) Q fun H3 e3 => q H3 (e2.trans e3)
end
theorem hu8 {A : Around} {k : Nat} (hr : Room k A) : A.units + 8 < cLine := by have := hr.units; omega
theorem hu6 {A : Around} {k : Nat} (hr : Room k A) : A.units + 6 < cLine := by have := hr.units; omega
theorem hu65 {A : Around} {k : Nat} (hr : Room k A) : A.units + 65 < cLine := by have := hr.un; omega
/-! ### in, not in for lists of places -/
theorem inV_nat (x : Nat) (l : List Nat) : inV (nV x) (l.map nV) = decide (x ∈ l) := by
  induction l with
  | nil => rfl
  | cons a l ih =>
    have e : inV (nV x) ((a :: l).map nV) = (eqV (nV a) (nV x) || inV (nV x) (l.map nV)) := rfl
    have e2 : eqV (nV a) (nV x) = decide (a = x) := by
      show ((a : Int) == (x : Int)) = decide (a = x)
      by_cases h : a = x
      · subst h
        simp
      · rw [decide_eq_false h]
        exact beq_eq_false_iff_ne.mpr (by omega)
    rw [e, ih, e2, ← Bool.decide_or]
    exact decide_eq_decide.mpr ⟨fun h => h.elim (fun q => by rw [q]; exact List.mem_cons_self) fun q => List.mem_cons_of_mem _ q, fun h => (List.mem_cons.mp h).elim (fun q => .inl q.symm) .inr⟩
theorem flat_nat (l : List Nat) : (l.map nV).all flatV = true := by
  induction l with
  | nil => rfl
  | cons a l ih => exact ih

/-! ### arguments told by properties -/
section
variable {K : PySem.W.Frag} {σ : L2.St} {H : Hp} {te : TE} {tr ta : TA}
def EvAP (ta : TA) (σ : L2.St) (H : Hp) (P : List V → Hp → Prop) : Prop := ∀ H1, Ex H H1 → ∀ Q : List V → Hp → Prop, (∀ vs H2, Ex H1 H2 → P vs H2 → Q vs H2) → ta σ H1 Q
theorem eap_nil : EvAP tNil σ H (fun vs _ => vs = []) := fun H1 _ _ q => q _ H1 (Ex.refl H1) rfl
theorem eap_cons {P : V → Hp → Prop} {R : V → List V → Hp → Prop} (h : EvP te σ H P) (hr : ∀ v H1, Ex H H1 → P v H1 → EvAP tr σ H1 (R v)) : EvAP (tCons te tr) σ H (fun vs H' => ∃ v r, vs = v :: r ∧ R v r H') := fun H1 e Q q =>
  h H1 e _ fun v H2 e2 hv => hr v H2 (e.trans e2) hv H2 (Ex.refl H2) _ fun r H3 e3 h3 => q _ H3 (e2.trans e3) ⟨v, r, rfl, h3⟩
theorem EvAP.imp {P R : List V → Hp → Prop} (h : EvAP ta σ H P) (k : ∀ vs H', Ex H H' → P vs H' → R vs H') : EvAP ta σ H R := fun H1 e Q q => h H1 e Q fun vs H2 e2 hp => q vs H2 e2 (k vs H2 (e.trans e2) hp)
theorem ea_p {vs : List V} (h : EvA ta σ H vs) : EvAP ta σ H (fun x _ => x = vs) := fun H1 e Q q => h H1 e Q fun H2 e2 => q vs H2 e2 rfl
/-- one argument -/
theorem eap_one {P : V → Hp → Prop} (h : EvP te σ H P) : EvAP (tCons te tNil) σ H (fun vs H' => ∃ v, vs = [v] ∧ P v H') := fun H1 e Q q => h H1 e _ fun v H2 e2 hv => q _ H2 e2 ⟨v, rfl, hv⟩
/-- two arguments, the first one's property kept -/
theorem eap_two {tf : TE} {P R : V → Hp → Prop} (mono : ∀ v H H', Ex H H' → P v H → P v H') (h : EvP te σ H P) (h2 : ∀ H1, Ex H H1 → EvP tf σ H1 R) : EvAP (tCons te (tCons tf tNil)) σ H (fun vs H' => ∃ v u, vs = [v, u] ∧ P v H' ∧ R u H') := fun H1 e Q q =>
  h H1 e _ fun v H2 e2 hv => h2 H2 (e.trans e2) H2 (Ex.refl H2) _ fun u H3 e3 hu => q _ H3 (e2.trans e3) ⟨v, u, rfl, mono v H2 H3 e3 hv, hu⟩
/-- three arguments, the last one told -/
theorem eap_three {t1 t2 t3 : TE} {x y : V} {R : V → Hp → Prop} (h1 : Ev t1 σ H x) (h2 : Ev t2 σ H y) (h3 : EvP t3 σ H R) : EvAP (tCons t1 (tCons t2 (tCons t3 tNil))) σ H (fun vs H' => ∃ u, vs = [x, y, u] ∧ R u H') := fun H1 e Q q =>
  h1 H1 e _ fun H2 e2 => h2 H2 (e.trans e2) _ fun H3 e3 => h3 H3 ((e.trans e2).trans e3) _ fun u H4 e4 hu => q _ H4 ((e2.trans e3).trans e4) ⟨u, rfl, hu⟩
theorem evP_callP {sp : Sp} {E : XK} {A : List V → Hp → Prop} {P : V → Hp → Prop} (h : EvAP ta σ H A) (hs : ∀ vs H1, Ex H H1 → A vs H1 → ∀ Q : VK, (∀ v H2, Ex H1 H2 → P v H2 → Q v H2) → sp vs H1 Q E) : EvP (tCall sp [] E ta) σ H P := fun H1 e Q q =>
  h H1 e _ fun vs H2 e2 hA => by
    show sp (vs ++ []) H2 Q E
    rw [List.append_nil]
    exact hs vs H2 (e.trans e2) hA Q fun v H3 e3 hp => q v H3 (e2.trans e3) hp
theorem evN_callP {sp : Sp} {E : XK} {A : List V → Hp → Prop} {P : Addr → Hp → Prop} (h : EvAP ta σ H A) (hs : ∀ vs H1, Ex H H1 → A vs H1 → ∀ Q : VK, (∀ p H2, H1 p = none → Ex H1 H2 → P p H2 → Q (.ref p) H2) → sp vs H1 Q E) : EvN (tCall sp [] E ta) σ H P := fun H1 e Q q =>
  h H1 e _ fun vs H2 e2 hA => by
    show sp (vs ++ []) H2 Q E
    rw [List.append_nil]
    exact hs vs H2 (e.trans e2) hA Q fun v H3 hn e3 hp => q v H3 (fresh_back e2 hn) (e2.trans e3) hp
/-- a built-in's call, its arguments and its answer told -/
theorem evP_cb {r : List V → Hp → VK → Prop} {A : List V → Hp → Prop} {P : V → Hp → Prop} (h : EvAP ta σ H A) (hr : ∀ vs H1, Ex H H1 → A vs H1 → ∀ Q : VK, (∀ v H2, Ex H1 H2 → P v H2 → Q v H2) → r vs H1 Q) : EvP (tCB r ta) σ H P := fun H1 e Q q =>
  h H1 e _ fun vs H2 e2 hA => hr vs H2 (e.trans e2) hA Q fun v H3 e3 hp => q v H3 (e2.trans e3) hp
theorem evN_cb {r : List V → Hp → VK → Prop} {A : List V → Hp → Prop} {P : Addr → Hp → Prop} (h : EvAP ta σ H A) (hr : ∀ vs H1, Ex H H1 → A vs H1 → ∀ Q : VK, (∀ p H2, H1 p = none → Ex H1 H2 → P p H2 → Q (.ref p) H2) → r vs H1 Q) : EvN (tCB r ta) σ H P := fun H1 e Q q =>
  h H1 e _ fun vs H2 e2 hA => hr vs H2 (e.trans e2) hA Q fun v H3 hn e3 hp => q v H3 (fresh_back e2 hn) (e2.trans e3) hp
/-- len of a list that is told -/
theorem ev_lenP {n : Nat} (h : EvP te σ H (fun v H' => ∃ p xs, v = .ref p ∧ H' p = some (.lst xs) ∧ xs.length = n)) : Ev (tCB (rLenQ K) (tCons te tNil)) σ H (.int (n : Int)) := fun H1 e Q q =>
  h H1 e _ fun v H2 e2 ⟨p, xs, hv, hp, hl⟩ => ⟨p, xs, by rw [hv], .inl (sq_of hp), by rw [hl]; exact q H2 e2⟩
end
end NH
namespace NH
open PySem L2 Evl
/-! ### data: lists and tuples of ints and of pairs -/
section
open PySem.W
variable {K : PySem.W.Frag} {H : Hp}
theorem lay_ints : ∀ l : List Int, PyData.canLayAll0 (l.map PyData.int) = true
  | [] => by simp [PyData.canLayAll0]
  | z :: zs => by simp [PyData.canLayAll0, PyData.canLay0, lay_ints zs]
theorem dep_ints : ∀ l : List Int, PyData.depthAll (l.map PyData.int) = 0
  | [] => by simp [PyData.depthAll]
  | z :: zs => by simp [PyData.depthAll, PyData.depth, dep_ints zs]
theorem shaped_li (l : List Int) : SeqAt.shaped (.list (l.map PyData.int)) = true := by
  have h : PyData.depth (.list (l.map PyData.int)) = 1 := by simp only [PyData.depth, dep_ints]
  show (PyData.canLay0 (.list (l.map PyData.int)) && decide (PyData.depth (.list (l.map PyData.int)) ≤ 64)) = true
  rw [Bool.and_eq_true]
  exact ⟨by simp only [PyData.canLay0]; exact lay_ints l, decide_eq_true (by omega)⟩
theorem shaped_ti (l : List Int) : SeqAt.shaped (.tuple (l.map PyData.int)) = true := by
  have h : PyData.depth (.tuple (l.map PyData.int)) = 1 := by simp only [PyData.depth, dep_ints]
  show (PyData.canLay0 (.tuple (l.map PyData.int)) && decide (PyData.depth (.tuple (l.map PyData.int)) ≤ 64)) = true
  rw [Bool.and_eq_true]
  exact ⟨by simp only [PyData.canLay0]; exact lay_ints l, decide_eq_true (by omega)⟩
theorem lay_tups : ∀ l : List (List Int), PyData.canLayAll0 (l.map fun h => .tuple (h.map PyData.int)) = true
  | [] => by simp [PyData.canLayAll0]
  | z :: zs => by simp [PyData.canLayAll0, PyData.canLay0, lay_ints z, lay_tups zs]
theorem dep_tups : ∀ l : List (List Int), PyData.depthAll (l.map fun h => .tuple (h.map PyData.int)) ≤ 1
  | [] => by simp [PyData.depthAll]
  | z :: zs => by
    have := dep_tups zs
    simp only [List.map_cons, PyData.depthAll, PyData.depth, dep_ints]
    omega
theorem shaped_lt (l : List (List Int)) : SeqAt.shaped (.list (l.map fun h => .tuple (h.map PyData.int))) = true := by
  have h0 := dep_tups l
  have h : PyData.depth (.list (l.map fun h => .tuple (h.map PyData.int))) ≤ 2 := by simp only [PyData.depth]; omega
  show (PyData.canLay0 (.list (l.map fun h => .tuple (h.map PyData.int))) && decide (PyData.depth (.list (l.map fun h => .tuple (h.map PyData.int))) ≤ 64)) = true
  rw [Bool.and_eq_true]
  exact ⟨by simp only [PyData.canLay0]; exact lay_tups l, decide_eq_true (by omega)⟩
theorem dpAll_ints : ∀ l : List Int, DpAll K H (l.map V.int) (l.map PyData.int)
  | [] => .nil
  | z :: zs => .cons (.int z) (dpAll_ints zs)
theorem dp_lst {p : Addr} {l : List Int} (h : H p = some (.lst (l.map V.int))) : Dp K H (.ref p) (.list (l.map PyData.int)) := .lst (sq_of h) (dpAll_ints l)
theorem dp_tup {p : Addr} {l : List Int} (h : H p = some (.tup (l.map V.int))) : Dp K H (.ref p) (.tuple (l.map PyData.int)) := .tup (st_of h) (dpAll_ints l)
theorem eqv_li (a b : List Int) : PyData.eqv (.list (a.map PyData.int)) (.list (b.map PyData.int)) = decide (a = b) := by
  simp only [PyData.eqv]
  exact eqvAll_map (α := Int) a b
theorem eqv_ti (a b : List Int) : PyData.eqv (.tuple (a.map PyData.int)) (.tuple (b.map PyData.int)) = decide (a = b) := by
  simp only [PyData.eqv]
  exact eqvAll_map (α := Int) a b
/-- places as ints -/
def zN (l : List Nat) : List Int := l.map Int.ofNat
theorem zN_V (l : List Nat) : (zN l).map V.int = l.map nV := by
  unfold zN
  rw [List.map_map]
  rfl
theorem zN_inj {a b : List Nat} (h : zN a = zN b) : a = b := by
  have e : ∀ l : List Nat, (zN l).map Int.toNat = l := fun l => by
    unfold zN
    rw [List.map_map]
    have : (Int.toNat ∘ Int.ofNat) = id := by funext x; simp
    rw [this, List.map_id]
  rw [← e a, ← e b, h]
theorem zN_eq (a b : List Nat) : decide (zN a = zN b) = decide (a = b) := decide_eq_decide.mpr ⟨zN_inj, fun h => by rw [h]⟩
variable {σ : L2.St} {ta tb : TE}
/-- x == y, x != y of data, the operands told by properties -/
theorem ev_eqP {P R : V → Hp → Prop} {b : Bool} (ha : EvP ta σ H P) (hb : ∀ H1, Ex H H1 → EvP tb σ H1 R) (h : ∀ x y H1 H2, P x H1 → Ex H1 H2 → R y H2 → ∃ d e, Dp K H2 x d ∧ Dp K H2 y e ∧ SeqAt.shaped d = true ∧ SeqAt.shaped e = true ∧ PyData.eqv d e = b) :
    Ev (tOp (rEqD K) ta tb) σ H (.bl b) := fun H1 e Q q => ha H1 e _ fun x H2 e2 hx => hb H2 (e.trans e2) H2 (Ex.refl H2) _ fun y H3 e3 hy => by
  obtain ⟨d, e', h1, h2, h3, h4, h5⟩ := h x y H2 H3 hx e3 hy
  exact ⟨d, e', h1, h2, h3, h4, by rw [h5]; exact q H3 (e2.trans e3)⟩
theorem ev_neP {P R : V → Hp → Prop} {b : Bool} (ha : EvP ta σ H P) (hb : ∀ H1, Ex H H1 → EvP tb σ H1 R) (h : ∀ x y H1 H2, P x H1 → Ex H1 H2 → R y H2 → ∃ d e, Dp K H2 x d ∧ Dp K H2 y e ∧ SeqAt.shaped d = true ∧ SeqAt.shaped e = true ∧ PyData.eqv d e = b) :
    Ev (tOp (rNeD K) ta tb) σ H (.bl (!b)) := fun H1 e Q q => ha H1 e _ fun x H2 e2 hx => hb H2 (e.trans e2) H2 (Ex.refl H2) _ fun y H3 e3 hy => by
  obtain ⟨d, e', h1, h2, h3, h4, h5⟩ := h x y H2 H3 hx e3 hy
  exact ⟨d, e', h1, h2, h3, h4, by rw [h5]; exact q H3 (e2.trans e3)⟩
/-- a new list, its values told -/
theorem evP_new {te : TE} {xs : List V} (h : EvL te σ H xs) : EvP te σ H (fun v H' => ∃ p, v = .ref p ∧ H' p = some (.lst xs)) := (EvL.n h).p
theorem evP_ref {te : TE} {p : Addr} {o : HO} (h : Ev te σ H (.ref p)) (ho : H p = some o) : EvP te σ H (fun v H' => ∃ p, v = .ref p ∧ H' p = some o) := fun H1 e Q q => h H1 e Q fun H2 e2 => q _ H2 e2 ⟨p, rfl, e2 _ _ (e _ _ ho)⟩
/-- two lists of ints compared -/
theorem ev_eqL {a b : List Int} (ha : EvP ta σ H (fun v H' => ∃ p, v = .ref p ∧ H' p = some (.lst (a.map V.int)))) (hb : ∀ H1, Ex H H1 → EvP tb σ H1 (fun v H' => ∃ p, v = .ref p ∧ H' p = some (.lst (b.map V.int)))) : Ev (tOp (rEqD K) ta tb) σ H (.bl (decide (a = b))) :=
  ev_eqP ha hb fun x y H1 H2 ⟨p, hp, h1⟩ e ⟨p', hp', h2⟩ => ⟨_, _, by rw [hp]; exact dp_lst (e _ _ h1), by rw [hp']; exact dp_lst h2, shaped_li a, shaped_li b, eqv_li a b⟩
theorem ev_neL {a b : List Int} (ha : EvP ta σ H (fun v H' => ∃ p, v = .ref p ∧ H' p = some (.lst (a.map V.int)))) (hb : ∀ H1, Ex H H1 → EvP tb σ H1 (fun v H' => ∃ p, v = .ref p ∧ H' p = some (.lst (b.map V.int)))) : Ev (tOp (rNeD K) ta tb) σ H (.bl (!decide (a = b))) :=
  ev_neP ha hb fun x y H1 H2 ⟨p, hp, h1⟩ e ⟨p', hp', h2⟩ => ⟨_, _, by rw [hp]; exact dp_lst (e _ _ h1), by rw [hp']; exact dp_lst h2, shaped_li a, shaped_li b, eqv_li a b⟩
theorem ev_eqT {a b : List Int} (ha : EvP ta σ H (fun v H' => ∃ p, v = .ref p ∧ H' p = some (.tup (a.map V.int)))) (hb : ∀ H1, Ex H H1 → EvP tb σ H1 (fun v H' => ∃ p, v = .ref p ∧ H' p = some (.tup (b.map V.int)))) : Ev (tOp (rEqD K) ta tb) σ H (.bl (decide (a = b))) :=
  ev_eqP ha hb fun x y H1 H2 ⟨p, hp, h1⟩ e ⟨p', hp', h2⟩ => ⟨_, _, by rw [hp]; exact dp_tup (e _ _ h1), by rw [hp']; exact dp_tup h2, shaped_ti a, shaped_ti b, eqv_ti a b⟩
theorem ev_is_t {σ : L2.St} {H : Hp} {t : TT} {a b : Bool} (h : EvT t σ H a) (e : a = b) : EvT t σ H b := e ▸ h
theorem el_nil : EvL (tLst tNil) σ H [] := el_lst ea_nil (by decide)
theorem evP_nil {σ : L2.St} {H : Hp} : EvP (tLst tNil) σ H (fun v H' => ∃ p, v = .ref p ∧ H' p = some (.lst (([] : List Int).map V.int))) := evP_new el_nil
end
end NH
namespace NH
open PySem L2 Evl
section
variable {P : Program} {w : World} {K : PySem.W.Frag} {mg : Str → Option Value} {base : Heap} {f : Addr} {fd : FuncData}
theorem ev_isin {σ : L2.St} {H : Hp} {ta tb tc : TE} {E : XK} {x lo hi : Int} {b : Bool} (h1 : Ev ta σ H (.int x)) (h2 : Ev tb σ H (.int lo)) (h3 : Ev tc σ H (.int hi)) (hb : decide (lo ≤ x ∧ x ≤ hi) = b) : Ev (tCall spIsIn [] E (tCons ta (tCons tb (tCons tc tNil)))) σ H (.bl b) :=
  ev_cl (ea_cons h1 (ea_cons h2 (ea_cons h3 ea_nil))) fun H1 _ Q q => ⟨x, lo, hi, rfl, by rw [hb]; exact q H1 (Ex.refl H1)⟩
def spIsRoad : Sp := fun vs H Q _ => ∃ (a : Addr) (n : Int) (x y l : Int), vs = [.ref a, .int n] ∧ H a = some (.tup [.int x, .int y, .int l]) ∧ 0 ≤ x ∧ x < y ∧ y < n ∧ 1 ≤ l ∧ l ≤ 100 ∧ ∀ H', Ex H H' → Q (.bl true) H'
theorem scIsRoad : FnScope ["value", "count"] ["value", "count"] (defScope s_is_road) := ⟨rfl, rfl, rfl, by decide +kernel, rfl, by decide +kernel, by decide +kernel⟩
theorem ok_is_road (T : Txt K mg) (C : Cl P w K mg base "is_in" 1 ["value", "least", "most"] spIsIn) (F : Fun K "is_road" "is_road" s_is_road f fd) : FnOk P w K mg base CX0 2 f fd ["value", "count"] spIsRoad := by
  refine F.ok scIsRoad (fun vs H Q E h => ?_) (fun cdv A outer s H vs Q E hr h => ?_)
  · obtain ⟨_, _, _, _, _, rfl, _⟩ := h
    rfl
  obtain ⟨a, n, x, y, l, rfl, ha, h0, h1, h2, h3, h4, q⟩ := h
  obtain ⟨t, hc⟩ := T.c_MOST_LENGTH
  refine ⟨_, pss_cons (ps_if (PW.pt (pw_or (pt_not (pt_val (pe_callB call_isi (by rfl) T.b_isinstance (by decide +kernel) (pa_cons (pv 0) (pa_cons (pe_bltn (by rfl) T.b_tuple (by decide +kernel) (v := .ty "tuple") rfl) pa_nil)))))
      (pw_or1 (pt_cmpR op_ne (pe_callB call_len_seq (by rfl) T.b_len PySem.boot_len (pa_cons (pv 0) pa_nil)) pe_int (nomark _))))) (pss_one (ps_ret pe_bl)) pss_nil)
    (pss_cons (ps_if (PW.pt (pw_or (pt_not (pt_val (pe_cl C hr (by rfl) (pa_cons (pe_ix ix_tup (pv 0) pe_int (fun _ _ => rfl)) (pa_cons pe_int (pa_cons (pe_op op_sub (pv 1) pe_int) pa_nil))))))
      (pw_or1 (pt_not (pt_val (pe_cl C hr (by rfl) (pa_cons (pe_ix ix_tup (pv 0) pe_int (fun _ _ => rfl)) (pa_cons (pe_op op_add (pe_ix ix_tup (pv 0) pe_int (fun _ _ => rfl)) pe_int) (pa_cons (pe_op op_sub (pv 1) pe_int) pa_nil))))))))) (pss_one (ps_ret pe_bl)) pss_nil)
    (pss_one (ps_ret (pe_cl C hr (by rfl) (pa_cons (pe_ix ix_tup (pv 0) pe_int (fun _ _ => rfl)) (pa_cons pe_int (pa_cons (pe_glob (v := .int 100) (by rfl) hc ⟨_, rfl⟩) pa_nil))))))), ?_⟩
  have e0 : ∀ H1, Ex H H1 → H1 a = some (.tup [.int x, .int y, .int l]) := fun _ e => e _ _ ha
  refine q_guard (et_or (et_not (et_B (ev_isi (b := true) (ev_var rfl) ev_c (ty_tup ha) (by decide +kernel)))) fun _ => et_cmp (ev_lenT (ev_var rfl) ha) ev_c (rv_ne rfl)) fun H1 e1 => ?_
  have ha1 := e0 H1 e1
  refine q_guard (et_or (et_not (et_B (ev_isin (b := true) (ev_ixT (i := 0) (ev_var rfl) ev_c ha1 rfl) ev_c (ev_op (ev_var rfl) ev_c rv_I0) (decide_eq_true (by omega)))))
    fun _ => et_not (et_B (ev_isin (b := true) (ev_ixT (i := 1) (ev_var rfl) ev_c ha1 rfl) (ev_op (ev_ixT (i := 0) (ev_var rfl) ev_c ha1 rfl) ev_c rv_I0) (ev_op (ev_var rfl) ev_c rv_I0) (decide_eq_true (by omega))))) fun H2 e2 => ?_
  exact s_ret (ev_isin (b := true) (ev_ixT (i := 2) (ev_var rfl) ev_c (e2 _ _ ha1) rfl) ev_c ev_c (decide_eq_true (by omega))) fun H3 e3 => q H3 ((e1.trans e2).trans e3)
end
end NH
namespace NH
open PySem L2 Evl
section
variable {P : Program} {w : World} {K : PySem.W.Frag} {mg : Str → Option Value} {base : Heap} {f : Addr} {fd : FuncData}
abbrev ClIn (P : Program) (w : World) (K : PySem.W.Frag) (mg : Str → Option Value) (base : Heap) : Prop := Cl P w K mg base "is_in" 1 ["value", "least", "most"] spIsIn
def spIsWeights : Sp := fun vs H Q _ => ∃ (a : Addr) (ws : List Int), vs = [.ref a] ∧ H a = some (.tup (ws.map V.int)) ∧ 2 ≤ ws.length ∧ ws.length ≤ 8 ∧ (∀ x ∈ ws, 0 ≤ x ∧ x ≤ 100) ∧ 0 < ws.sum ∧ ∀ H', Ex H H' → Q (.bl true) H'
theorem scIsWeights : FnScope ["value", "one"] ["value"] (defScope s_is_weights) := ⟨rfl, rfl, rfl, by decide +kernel, rfl, by decide +kernel, by decide +kernel⟩
theorem ev_chain2 {σ : L2.St} {H : Hp} {ta tb tc : TE} {r r' : R2} {x y z : V} {b c : Bool} (h1 : Ev ta σ H x) (h2 : Ev tb σ H y) (hr : RV r x y H (.bl b)) (h3 : b = true → Ev tc σ H z) (hr' : RV r' y z H (.bl c)) : Ev (tChain r r' ta tb tc) σ H (.bl (b && c)) := fun H1 e Q q =>
  h1 H1 e _ fun H2 e2 => h2 H2 (e.trans e2) _ fun H3 e3 => hr H3 ((e.trans e2).trans e3) _ fun H4 e4 => ⟨b, rfl, by
    cases b with
    | true => exact iteT (h3 rfl H4 (((e.trans e2).trans e3).trans e4) _ fun H5 e5 => hr' H5 ((((e.trans e2).trans e3).trans e4).trans e5) Q fun H6 e6 => q H6 ((((e2.trans e3).trans e4).trans e5).trans e6))
    | false => exact iteF (q H4 ((e2.trans e3).trans e4))⟩
theorem ok_is_weights (T : Txt K mg) (C : ClIn P w K mg base) (F : Fun K "is_weights" "is_weights" s_is_weights f fd) : FnOk P w K mg base CX0 2 f fd ["value"] spIsWeights := by
  refine F.ok scIsWeights (fun vs H Q E h => ?_) (fun cdv A outer s H vs Q E hr h => ?_)
  · obtain ⟨_, _, rfl, _⟩ := h
    rfl
  obtain ⟨a, ws, rfl, ha, h2, h8, hw, hp, q⟩ := h
  obtain ⟨t1, hc1⟩ := T.c_MOST_POINTS
  obtain ⟨t2, hc2⟩ := T.c_MOST_WEIGHT
  refine ⟨_, pss_cons (ps_if (PW.pt (pw_or (pt_not (pt_val (pe_callB call_isi (by rfl) T.b_isinstance (by decide +kernel) (pa_cons (pv 0) (pa_cons (pe_bltn (by rfl) T.b_tuple (by decide +kernel) (v := .ty "tuple") rfl) pa_nil)))))
      (pw_or1 (pt_not (pt_chain op_le op_le pe_int (pe_callB call_len_seq (by rfl) T.b_len PySem.boot_len (pa_cons (pv 0) pa_nil)) (pe_glob (v := .int 8) (by rfl) hc1 ⟨_, rfl⟩)))))) (pss_one (ps_ret pe_bl)) pss_nil)
    (pss_one (ps_ret (pe_and (pe_cmpR (op_eqD hr.units) (pe_lc (own := [("one", 1)]) (g := gName 1) (tt := tNot (tB (tCall spIsIn [] E0 (tCons (tVar 1) (tCons (tC (.int 0)) (tCons (tC (.int 100)) tNil)))))) (te := tVar 1) rfl scIsWeights.nd (pi_tup (pv 0)) (blkOk_by (by kernel_rfl))
        (fun _ _ _ _ _ => pg_name (i := 1) scIsWeights.nd rfl (Or.inl rfl)) (fun _ _ _ _ _ => pts_one (pt_not (pt_val (pe_cl C hr (by rfl) (pa_cons (pv 1) (pa_cons pe_int (pa_cons (pe_glob (v := .int 100) (by rfl) hc2 ⟨_, rfl⟩) pa_nil))))))) (fun _ _ _ _ _ => pv 1)) (pe_lst pa_nil) (nomark _))
      (pe_one (pe_cmpR op_gt (pe_callB (cr_sumT rfl) (by rfl) T.b_sum (by decide +kernel) (pa_cons (pv 0) pa_nil)) pe_int (nomark _)))))), ?_⟩
  refine q_guard (et_or (et_not (et_B (ev_isi (b := true) (ev_var rfl) ev_c (ty_tup ha) (by decide +kernel)))) fun _ => et_not (et_test (ev_is (ev_chain2 ev_c (ev_lenT (ev_var rfl) ha) rv_I0 (fun _ => ev_c) rv_I0) (show _ = V.bl true from ?_)))) fun H1 e1 => ?_
  · rw [List.length_map, decide_eq_true (by omega), decide_eq_true (by omega)]
    rfl
  · have ha1 := e1 _ _ ha
    have fl : ws.filter (fun x => !decide (0 ≤ x ∧ x ≤ 100)) = [] := List.filter_eq_nil_iff.mpr fun x hx => by
      rw [decide_eq_true (hw x hx)]
      decide
    have key := elP_tup (K := K) (R := fun (b : Int) v _ => v = .int b) (gt := gName 1) (tt := tNot (tB (tCall spIsIn [] E0 (tCons (tVar 1) (tCons (tC (.int 0)) (tCons (tC (.int 100)) tNil)))))) (te := tVar 1) (vs := [1]) (σ := [some (.ref a), none]) (H := H1) Stays.int same_mono (as := ws)
      (fun x => !decide (0 ≤ x ∧ x ≤ 100)) id (evP_tup same_mono (ev_var (i := 0) rfl) ha1 (rel_int ws)) (by omega) fun x v H2 e2 hx hv => by
        subst hv
        exact lcTurn_name rfl (et_not (et_B (ev_isin (ev_var rfl) ev_c ev_c rfl))) fun _ => ev_p (ev_var rfl)
    rw [fl] at key
    have k2 := (key.imp fun p H' _ h => h.ints).p
    refine s_ret (ev_is (ev_andV (ev_eqL k2 fun _ _ => evP_nil) fun _ => ev_op (ev_cb (r := rSumT K) (z := .int ws.sum) (ea_one (ev_var (i := 0) rfl)) fun H2 e2 Q' q' => ⟨a, ws, rfl, st_of (e2 _ _ ha1), q' H2 (Ex.refl H2)⟩) ev_c rv_I0) (show _ = V.bl true from ?_)) fun H3 e3 => q H3 (e1.trans e3)
    have : decide (0 < ws.sum) = true := decide_eq_true hp
    show V.bl (decide (List.map id [] = []) && decide (ws.sum > 0)) = V.bl true
    rw [show decide (ws.sum > 0) = true from this]
    rfl
end
end NH
namespace NH
open PySem L2 Evl
section
variable {P : Program} {w : World} {K : PySem.W.Frag} {mg : Str → Option Value} {base : Heap} {f : Addr} {fd : FuncData}
/-- the points 0 .. n - 1 are joined: each but 0 has a road to a lesser one -/
structure Joined (n : Nat) (rs : List Road) : Prop where
  one : 1 ≤ n
  bd : ∀ r ∈ rs, r.1 < n ∧ r.2.1 < n
  down : ∀ b, 1 ≤ b → b < n → ∃ a l, (a, b, l) ∈ rs ∧ a < b
/-- a part that is being grown -/
structure Grown (n : Nat) (part : List Nat) : Prop where
  nd : part.Nodup
  bd : ∀ x ∈ part, x < n
  hd : part[0]? = some 0
def Done (rs : List Road) (c : Nat) (part : List Nat) : Prop := ∀ r ∈ rs, (r.1 = c → r.2.1 ∈ part) ∧ (r.2.1 = c → r.1 ∈ part)
theorem all_in {n : Nat} {rs : List Road} {part : List Nat} (J : Joined n rs) (G : Grown n part) (h : ∀ (i : Nat) c, part[i]? = some c → Done rs c part) : ∀ x, x < n → x ∈ part := by
  intro x
  induction x using Nat.strongRecOn with
  | ind x ih =>
    intro hx
    by_cases h0 : x = 0
    · subst h0
      exact List.mem_of_getElem? G.hd
    · obtain ⟨a, l, hm, hlt⟩ := J.down x (by omega) hx
      obtain ⟨i, hi⟩ := List.mem_iff_getElem?.mp (ih a hlt (by omega))
      exact (h i a hi _ hm).1 rfl
theorem Grown.add {n : Nat} {part : List Nat} (G : Grown n part) {o : Nat} (ho : o < n) (hn : o ∉ part) : Grown n (part ++ [o]) := by
  refine ⟨List.nodup_append.mpr ⟨G.nd, by simp, fun a ha b hb => ?_⟩, fun x hx => ?_, ?_⟩
  · rw [List.mem_singleton.mp hb]
    exact fun e => hn (e ▸ ha)
  · rcases List.mem_append.mp hx with h | h
    · exact G.bd x h
    · rw [List.mem_singleton.mp h]; exact ho
  · have : 0 < part.length := (List.getElem?_eq_some_iff.mp G.hd).1
    rw [List.getElem?_append_left this]
    exact G.hd
/-- the heap while a part is grown -/
structure PartAt (H : Hp) (n : Nat) (pL pF pP : Addr) (H' : Hp) (part : List Nat) : Prop where
  ex : Ex H H'
  lf : H' pL = some (.lst ((List.range n).map nV))
  fd : H' pF = some (.lst [])
  pt : H' pP = some (.lst (part.map nV))
  fr : H pP = none
  ne : pP ≠ pL ∧ pP ≠ pF
theorem PartAt.grow {H H1 H2 : Hp} {n : Nat} {pL pF pP : Addr} {part : List Nat} (h : PartAt H n pL pF pP H1 part) (e : Ex H1 H2) : PartAt H n pL pF pP H2 part := ⟨h.ex.trans e, e _ _ h.lf, e _ _ h.fd, e _ _ h.pt, h.fr, h.ne⟩
theorem PartAt.put {H H1 : Hp} {n : Nat} {pL pF pP : Addr} {part part' : List Nat} (h : PartAt H n pL pF pP H1 part) : PartAt H n pL pF pP (upd H1 pP (.lst (part'.map nV))) part' :=
  ⟨Ex.mut h.ex h.fr, by rw [upd_ne h.ne.1.symm]; exact h.lf, by rw [upd_ne h.ne.2.symm]; exact h.fd, upd_same, h.fr, h.ne⟩
abbrev tIfPair (K : PySem.W.Frag) : TS := tIfS (tAnd (tTest (tOp rEq (tVar 9) (tOp (rIxL K) (tVar 4) (tVar 5)))) (tAnd (tTest (tOp (rIn K false) (tVar 10) (tVar 2))) (tTest (tOp (rIn K true) (tVar 10) (tVar 4))))) (tDrop (tBM K "list" rAppend (tVar 4) (tCons (tVar 10) tNil))) tNext
/-- one pair looked at: if one is the point in turn, the other is in the part behind it -/
theorem pair_step {H H1 : Hp} {n : Nat} {pL pF pP : Addr} {part : List Nat} {σ : L2.St} {D : Ends} {at' one other c : Nat} (S : PartAt H n pL pF pP H1 part) (G : Grown n part) (hn : n ≤ 1000) (ho : other < n) (hc : part[at']? = some c)
    (s2 : σ[2]? = some (some (.ref pL))) (s4 : σ[4]? = some (some (.ref pP))) (s5 : σ[5]? = some (some (.int (at' : Int)))) (s9 : σ[9]? = some (some (nV one))) (s10 : σ[10]? = some (some (nV other)))
    (k : ∀ H2 ext, (∀ a xs, H1 a = some (.tup xs) → H2 a = some (.tup xs)) → PartAt H n pL pF pP H2 (part ++ ext) → Grown n (part ++ ext) → (one = c → other ∈ part ++ ext) → D.nx σ H2) : tIfPair K D σ H1 := by
  have t1 : EvT (tTest (tOp rEq (tVar 9) (tOp (rIxL K) (tVar 4) (tVar 5)))) σ H1 (decide (one = c)) := by
    have z := et_cmp (r := rEq) (ev_var s9) (ev_ixL (K := K) (ev_var s4) (ev_var s5) S.pt (ix_nat hc)) (rv_eqI (i := (one : Int)) (j := (c : Int)))
    rw [dec_nat] at z
    exact z
  have t2 : EvT (tTest (tOp (rIn K false) (tVar 10) (tVar 2))) σ H1 (decide (other ∈ List.range n)) := by
    have z := et_cmp (ev_var s10) (ev_var s2) (rv_isL (K := K) (sq_of S.lf) rfl (flat_nat _) (x := nV other))
    rw [inV_nat] at z
    exact z
  have t3 : EvT (tTest (tOp (rIn K true) (tVar 10) (tVar 4))) σ H1 (!decide (other ∈ part)) := by
    have z := et_cmp (ev_var s10) (ev_var s4) (rv_niL (K := K) (sq_of S.pt) rfl (flat_nat _) (x := nV other))
    rw [inV_nat] at z
    exact z
  have lt : part.length ≤ n := nodup_length G.nd G.bd
  refine s_when (et_and t1 fun _ => et_and t2 fun _ => t3) (fun hb H2 e2 => ?_) fun hb H2 e2 => ?_
  · simp only [Bool.and_eq_true, decide_eq_true_eq, Bool.not_eq_true', decide_eq_false_iff_not] at hb
    have S2 := S.grow e2
    refine s_app S2.pt (ev_var s4) (ev_var s10) (by rw [List.length_map]; omega) fun H3 e3 => ?_
    have S3 := S2.grow e3
    have em : part.map nV ++ [nV other] = (part ++ [other]).map nV := by rw [List.map_append]; rfl
    rw [em]
    exact k _ [other] (fun a xs h => tup_keep S3.pt (e3 _ _ (e2 _ _ h))) S3.put (G.add ho hb.2.2) fun _ => List.mem_append_right _ List.mem_cons_self
  · refine k H2 [] (fun a xs h => e2 _ _ h) (by rw [List.append_nil]; exact S.grow e2) (by rw [List.append_nil]; exact G) fun h1 => ?_
    rw [List.append_nil]
    apply Classical.byContradiction
    intro hn'
    rw [decide_eq_true h1, decide_eq_true (List.mem_range.mpr ho), decide_eq_false hn'] at hb
    exact absurd hb (by decide)

/-- a road's three names from its tuple -/
theorem g_road {σ : L2.St} {H : Hp} {T : Addr} {r : Road} {i j k : Nat} {Q : L2.St → Hp → Prop} (hT : H T = some (.tup [.int (r.1 : Int), .int (r.2.1 : Int), .int r.2.2])) (q : Q (((σ.set i (some (nV r.1))).set j (some (nV r.2.1))).set k (some (.int r.2.2))) H) :
    gTup K 3 (gCons (gName i) (gCons (gName j) (gCons (gName k) gNil))) (.ref T) σ H Q := ⟨T, _, rfl, st_of hT, rfl, _, _, rfl, _, _, rfl, _, _, rfl, rfl, q⟩
theorem g_pair {σ : L2.St} {H : Hp} {T : Addr} {x y : V} {i j : Nat} {Q : L2.St → Hp → Prop} (hT : H T = some (.tup [x, y])) (q : Q ((σ.set i (some x)).set j (some y)) H) :
    gTup K 2 (gCons (gName i) (gCons (gName j) gNil)) (.ref T) σ H Q := ⟨T, _, rfl, st_of hT, rfl, _, _, rfl, _, _, rfl, rfl, q⟩
theorem g_trip {σ : L2.St} {H : Hp} {T : Addr} {x y z : V} {i j k : Nat} {Q : L2.St → Hp → Prop} (hT : H T = some (.tup [x, y, z])) (q : Q (((σ.set i (some x)).set j (some y)).set k (some z)) H) :
    gTup K 3 (gCons (gName i) (gCons (gName j) (gCons (gName k) gNil))) (.ref T) σ H Q := ⟨T, _, rfl, st_of hT, rfl, _, _, rfl, _, _, rfl, _, _, rfl, rfl, q⟩
abbrev tPairs (K : PySem.W.Frag) : TS := tFor (iTup K (tTup (tCons (tTup (tCons (tVar 6) (tCons (tVar 7) tNil))) (tCons (tTup (tCons (tVar 7) (tCons (tVar 6) tNil))) tNil)))) (gTup K 2 (gCons (gName 9) (gCons (gName 10) gNil))) (tIfPair K)
theorem one_line : 1 ≤ sizeLine := by decide
theorem two_line : 2 ≤ sizeLine := by decide
theorem three_line : 3 ≤ sizeLine := by decide
/-- one road looked at, both ways -/
theorem road_step {H H1 : Hp} {n : Nat} {pL pF pP : Addr} {part : List Nat} {v0 v1 v8 v9 v10 v11 : Option V} {D : Ends} {at' x y c : Nat} (S : PartAt H n pL pF pP H1 part) (G : Grown n part) (hn : n ≤ 1000) (hx : x < n) (hy : y < n) (hc : part[at']? = some c)
    (k : ∀ H2 ext u9 u10, PartAt H n pL pF pP H2 (part ++ ext) → Grown n (part ++ ext) → (x = c → y ∈ part ++ ext) → (y = c → x ∈ part ++ ext) → D.nx [v0, v1, some (.ref pL), some (.ref pF), some (.ref pP), some (.int (at' : Int)), some (nV x), some (nV y), v8, u9, u10, v11] H2) :
    tPairs K D [v0, v1, some (.ref pL), some (.ref pF), some (.ref pP), some (.int (at' : Int)), some (nV x), some (nV y), v8, v9, v10, v11] H1 := by
  refine ⟨_, rfl, _, rfl, two_line, fun t1 n1 => ⟨_, rfl, _, rfl, two_line, fun t2 n2 => ⟨two_line, fun t3 n3 => ⟨t3, rfl, ⟨_, st_of upd_same⟩, ?_⟩⟩⟩⟩
  have g1 : Ex H1 (upd H1 t1 (.tup [nV x, nV y])) := Ex.new n1
  have g2 := Ex.new n2 (o := .tup [nV y, nV x])
  have g3 := Ex.new n3 (o := .tup [.ref t1, .ref t2])
  have h1 := g3 _ _ (g2 _ _ (upd_same : upd H1 t1 (.tup [nV x, nV y]) t1 = _))
  have h2 := g3 _ _ (upd_same : upd (upd H1 t1 (.tup [nV x, nV y])) t2 (.tup [nV y, nV x]) t2 = _)
  have h3 : upd (upd (upd H1 t1 (.tup [nV x, nV y])) t2 (.tup [nV y, nV x])) t3 (.tup [.ref t1, .ref t2]) t3 = some (.tup [.ref t1, .ref t2]) := upd_same
  have S0 := S.grow (g1.trans (g2.trans g3))
  generalize upd (upd (upd H1 t1 (.tup [nV x, nV y])) t2 (.tup [nV y, nV x])) t3 (.tup [.ref t1, .ref t2]) = H0 at h1 h2 h3 S0 ⊢
  refine for_tup (K := K) (a := t3) (xs := [.ref t1, .ref t2]) (fun j σ H2 => ∃ u9 u10 ext, σ = [v0, v1, some (.ref pL), some (.ref pF), some (.ref pP), some (.int (at' : Int)), some (nV x), some (nV y), v8, u9, u10, v11] ∧ PartAt H n pL pF pP H2 (part ++ ext) ∧ Grown n (part ++ ext) ∧
      (1 ≤ j → x = c → y ∈ part ++ ext) ∧ (2 ≤ j → y = c → x ∈ part ++ ext) ∧ H2 t1 = some (.tup [nV x, nV y]) ∧ H2 t2 = some (.tup [nV y, nV x]) ∧ H2 t3 = some (.tup [.ref t1, .ref t2]))
    ⟨v9, v10, [], rfl, by rw [List.append_nil]; exact S0, by rw [List.append_nil]; exact G, fun h => absurd h (by decide), fun h => absurd h (by decide), h1, h2, h3⟩ (fun i σ H2 _ ⟨_, _, _, _, _, _, _, _, _, _, h⟩ => st_of h) ?_ ?_
  · rintro i z σ H2 hz ⟨u9, u10, ext, rfl, S2, G2, q1, q2, e1, e2, e3⟩
    have hc2 : (part ++ ext)[at']? = some c := by
      rw [List.getElem?_append_left (List.getElem?_eq_some_iff.mp hc).1]
      exact hc
    match i, hz with
    | 0, hz =>
      obtain rfl : V.ref t1 = z := Option.some.inj hz
      refine g_pair e1 (pair_step (one := x) (other := y) S2 G2 hn hy hc2 rfl rfl rfl rfl rfl fun H3 ex2 tk S3 G3 q3 => ?_)
      rw [List.append_assoc] at S3 G3 q3
      exact ⟨_, _, ext ++ ex2, rfl, S3, G3, fun _ => q3, fun h => absurd h (by omega), tk _ _ e1, tk _ _ e2, tk _ _ e3⟩
    | 1, hz =>
      obtain rfl : V.ref t2 = z := Option.some.inj hz
      refine g_pair e2 (pair_step (one := y) (other := x) S2 G2 hn hx hc2 rfl rfl rfl rfl rfl fun H3 ex2 tk S3 G3 q3 => ?_)
      rw [List.append_assoc] at S3 G3 q3
      refine ⟨_, _, ext ++ ex2, rfl, S3, G3, fun _ h => ?_, fun _ => q3, tk _ _ e1, tk _ _ e2, tk _ _ e3⟩
      rw [← List.append_assoc]
      exact List.mem_append_left _ (q1 (Nat.le_refl 1) h)
    | i + 2, hz => exact absurd hz (by simp)
  · rintro σ H2 ⟨u9, u10, ext, rfl, S2, G2, q1, q2, _⟩
    exact k H2 ext u9 u10 S2 G2 (q1 (Nat.le_succ 1)) (q2 (Nat.le_refl 2))

abbrev tRoads (K : PySem.W.Frag) : TS := tFor (iTup K (tVar 1)) (gTup K 3 (gCons (gName 6) (gCons (gName 7) (gCons (gName 8) gNil)))) (tPairs K)
/-- all roads looked at for the point in turn -/
theorem roads_step {H H1 : Hp} {n : Nat} {rs : List Road} {pr pL pF pP : Addr} {ys : List V} {part : List Nat} {v0 v6 v7 v8 v9 v10 v11 : Option V} {D : Ends} {at' c : Nat} (J : Joined n rs) (hr : H pr = some (.tup ys)) (hy : Rel RoadR H rs ys) (S : PartAt H n pL pF pP H1 part) (G : Grown n part) (hn : n ≤ 1000) (hc : part[at']? = some c)
    (k : ∀ H2 ext u6 u7 u8 u9 u10, PartAt H n pL pF pP H2 (part ++ ext) → Grown n (part ++ ext) → Done rs c (part ++ ext) → D.nx [v0, some (.ref pr), some (.ref pL), some (.ref pF), some (.ref pP), some (.int (at' : Int)), u6, u7, u8, u9, u10, v11] H2) :
    tRoads K D [v0, some (.ref pr), some (.ref pL), some (.ref pF), some (.ref pP), some (.int (at' : Int)), v6, v7, v8, v9, v10, v11] H1 := by
  refine ⟨_, rfl, pr, rfl, ⟨ys, st_of (S.ex _ _ hr)⟩, for_tup (K := K) (a := pr) (xs := ys) (fun j σ H2 => ∃ u6 u7 u8 u9 u10 ext, σ = [v0, some (.ref pr), some (.ref pL), some (.ref pF), some (.ref pP), some (.int (at' : Int)), u6, u7, u8, u9, u10, v11] ∧ PartAt H n pL pF pP H2 (part ++ ext) ∧ Grown n (part ++ ext) ∧
      ∀ r ∈ rs.take j, (r.1 = c → r.2.1 ∈ part ++ ext) ∧ (r.2.1 = c → r.1 ∈ part ++ ext)) ⟨v6, v7, v8, v9, v10, [], rfl, by rw [List.append_nil]; exact S, by rw [List.append_nil]; exact G, fun r h => by simp at h⟩
    (fun i σ H2 _ ⟨_, _, _, _, _, _, _, h, _⟩ => st_of (h.ex _ _ hr)) ?_ ?_⟩
  · rintro i z σ H2 hz ⟨u6, u7, u8, u9, u10, ext, rfl, S2, G2, q⟩
    obtain ⟨r, hr', a, rfl, ha⟩ := hy.get hz
    have hm := List.mem_of_getElem? hr'
    obtain ⟨b1, b2⟩ := J.bd r hm
    have hc2 : (part ++ ext)[at']? = some c := by
      rw [List.getElem?_append_left (List.getElem?_eq_some_iff.mp hc).1]
      exact hc
    refine g_road (S2.ex _ _ ha) (road_step S2 G2 hn b1 b2 hc2 fun H3 ex2 w9 w10 S3 G3 q1 q2 => ?_)
    rw [List.append_assoc] at S3 G3 q1 q2
    refine ⟨_, _, _, w9, w10, ext ++ ex2, rfl, S3, G3, fun r' h' => ?_⟩
    rw [List.take_add_one, hr'] at h'
    rcases List.mem_append.mp h' with h' | h'
    · obtain ⟨z1, z2⟩ := q r' h'
      rw [← List.append_assoc]
      exact ⟨fun h => List.mem_append_left _ (z1 h), fun h => List.mem_append_left _ (z2 h)⟩
    · have e : r' = r := by simpa using h'
      subst e
      exact ⟨q1, q2⟩
  · rintro σ H2 ⟨u6, u7, u8, u9, u10, ext, rfl, S2, G2, q⟩
    rw [← hy.length, List.take_length] at q
    exact k H2 ext u6 u7 u8 u9 u10 S2 G2 q
abbrev tGrow (K : PySem.W.Frag) : TS := tWhile (tTest (tOp (rI0 fun i j => .bl (decide (i < j))) (tVar 5) (tCB (rLenQ K) (tCons (tVar 4) tNil)))) (tSeq (tRoads K) (tAug 5 (tC (.int 1)) (ipI fun i j => i + j)))
/-- the whole part of point 0 -/
theorem grow_all {H H1 : Hp} {n : Nat} {rs : List Road} {pr pL pF pP : Addr} {ys : List V} {v0 v6 v7 v8 v9 v10 v11 : Option V} {D : Ends} (J : Joined n rs) (hr : H pr = some (.tup ys)) (hy : Rel RoadR H rs ys) (S : PartAt H n pL pF pP H1 [0]) (hn : n ≤ 1000)
    (k : ∀ H2 part v5 u6 u7 u8 u9 u10, PartAt H n pL pF pP H2 part → Grown n part → (∀ x, x < n → x ∈ part) → D.nx [v0, some (.ref pr), some (.ref pL), some (.ref pF), some (.ref pP), v5, u6, u7, u8, u9, u10, v11] H2) :
    tGrow K D [v0, some (.ref pr), some (.ref pL), some (.ref pF), some (.ref pP), some (.int 0), v6, v7, v8, v9, v10, v11] H1 := by
  have G0 : Grown n [0] := ⟨by simp, fun x hx => by
    rw [List.mem_singleton.mp hx]
    exact J.one, rfl⟩
  let St' : Nat → L2.St → Hp → Prop := fun at' σ H2 => ∃ part u6 u7 u8 u9 u10, σ = [v0, some (.ref pr), some (.ref pL), some (.ref pF), some (.ref pP), some (.int ((at' : Nat) : Int)), u6, u7, u8, u9, u10, v11] ∧ PartAt H n pL pF pP H2 part ∧ Grown n part ∧ at' ≤ part.length ∧
      ∀ (i : Nat) c, i < at' → part[i]? = some c → Done rs c part
  refine s_while (fun m σ H2 => ∃ at', m = n - at' ∧ St' at' σ H2) (n - 0) ⟨0, rfl, [0], v6, v7, v8, v9, v10, rfl, S, G0, Nat.zero_le _, fun i c h => absurd h (Nat.not_lt_zero _)⟩ ?_
  rintro m σ H2 ⟨at', rfl, part, u6, u7, u8, u9, u10, rfl, S2, G2, hle, q⟩
  have hlen : part.length ≤ n := nodup_length G2.nd G2.bd
  have et := et_cmp (ev_var (σ := [v0, some (.ref pr), some (.ref pL), some (.ref pF), some (.ref pP), some (.int ((at' : Nat) : Int)), u6, u7, u8, u9, u10, v11]) (i := 5) (v := .int ((at' : Nat) : Int)) rfl) (ev_lenL (K := K) (ev_var (i := 4) rfl) S2.pt) (rv_I0 (g := fun i j => V.bl (decide (i < j))) (H := H2))
  rw [List.length_map] at et
  refine ⟨decide ((at' : Int) < (part.length : Int)), et, fun hb H3 e3 => ?_, fun hb H3 e3 => ?_⟩
  · have hlt : at' < part.length := by have := of_decide_eq_true hb; omega
    refine ⟨St' (at' + 1), fun σ2 H4 z => ⟨n - (at' + 1), by omega, at' + 1, rfl, z⟩, roads_step J hr hy (S2.grow e3) G2 hn (List.getElem?_eq_getElem hlt) fun H4 ext w6 w7 w8 w9 w10 S4 G4 dn => ?_⟩
    refine ⟨_, rfl, _, _, rfl, rfl, part ++ ext, w6, w7, w8, w9, w10, rfl, S4, G4, by rw [List.length_append]; omega, fun i c hi hc => ?_⟩
    by_cases e : i = at'
    · subst e
      have ec : part[i] = c := by
        rw [List.getElem?_append_left hlt, List.getElem?_eq_getElem hlt] at hc
        exact Option.some.inj hc
      rw [← ec]
      exact dn
    · have hi' : i < at' := by omega
      rw [List.getElem?_append_left (by omega)] at hc
      have z := q i c hi' hc
      exact fun r hr => ⟨fun h => List.mem_append_left _ ((z r hr).1 h), fun h => List.mem_append_left _ ((z r hr).2 h)⟩
  · have hge : at' = part.length := by have := of_decide_eq_false hb; omega
    subst hge
    refine k H3 part _ u6 u7 u8 u9 u10 (S2.grow e3) G2 (all_in J G2 fun i c hi => q i c (List.getElem?_eq_some_iff.mp hi).1 hi)
end
end NH
namespace NH
open PySem L2 Evl
section
variable {P : Program} {w : World} {K : PySem.W.Frag} {mg : Str → Option Value} {base : Heap} {f : Addr} {fd : FuncData}
def spParts : Sp := fun vs H Q _ => ∃ (pp pr : Addr) (n : Nat) (rs : List Road) (ys : List V), vs = [.ref pp, .ref pr] ∧ H pp = some (.lst ((List.range n).map nV)) ∧ H pr = some (.tup ys) ∧ Rel RoadR H rs ys ∧ Joined n rs ∧ n ≤ 60 ∧
  ∀ p q H', Ex H H' → H' p = some (.lst [.ref q]) → Q (.ref p) H'
theorem scParts : FnScope ["points", "roads", "left", "found", "part", "at", "a", "b", "length", "one", "other", "x"] ["points", "roads"] (defScope s_parts_in) := ⟨rfl, rfl, rfl, by decide +kernel, rfl, by decide +kernel, by decide +kernel⟩
theorem ok_parts (T : Txt K mg) (F : Fun K "parts_in" "parts_in" s_parts_in f fd) : FnOk P w K mg base CX0 1 f fd ["points", "roads"] spParts := by
  refine F.ok scParts (fun vs H Q E h => ?_) (fun cdv A outer s H vs Q E hr h => ?_)
  · obtain ⟨_, _, _, _, _, rfl, _⟩ := h
    rfl
  obtain ⟨pp, pr, n, rs, ys, rfl, hp, hrd, hy, J, hn, q⟩ := h
  refine ⟨_, pss_cons (ps_par (i := 2) (j := 3) rfl scParts.nd rfl rfl (by decide) rfl rfl (pa_cons (pe_callTy call_list_of (by rfl) T.b_list (by decide +kernel) (pa_cons (pv 0) pa_nil)) (pa_cons (pe_lst pa_nil) pa_nil)) (by rfl))
    (pss_cons (ps_while PassesOwn.never (pt_cmpR (op_neD hr.units) (pv 2) (pe_lst pa_nil) (nomark _))
      (pss_cons (ps_asg (pe_tup (pa_cons (pe_lst (pa_cons (pe_ix ix_list (pv 2) pe_int (fun _ _ => rfl)) pa_nil)) (pa_cons pe_int pa_nil))) (pg_tup rfl (pgs_cons (pg_name (i := 4) scParts.nd rfl (Or.inr rfl)) (pgs_cons (pg_name (i := 5) scParts.nd rfl (Or.inl rfl)) pgs_nil))))
      (pss_cons (ps_while PassesOwn.never (pt_cmpR op_lt (pv 5) (pe_callB call_len_seq (by rfl) T.b_len PySem.boot_len (pa_cons (pv 4) pa_nil)) (nomark _))
        (pss_cons (ps_for PassesOwn.never rfl (pi_tup (pv 1)) (pg_tup rfl (pgs_cons (pg_name (i := 6) scParts.nd rfl (Or.inl rfl)) (pgs_cons (pg_name (i := 7) scParts.nd rfl (Or.inl rfl)) (pgs_cons (pg_name (i := 8) scParts.nd rfl (Or.inl rfl)) pgs_nil))))
          (pss_one (ps_for PassesOwn.never rfl (pi_tup (pe_tup (pa_cons (pe_tup (pa_cons (pv 6) (pa_cons (pv 7) pa_nil))) (pa_cons (pe_tup (pa_cons (pv 7) (pa_cons (pv 6) pa_nil))) pa_nil)))) (pg_tup rfl (pgs_cons (pg_name (i := 9) scParts.nd rfl (Or.inl rfl)) (pgs_cons (pg_name (i := 10) scParts.nd rfl (Or.inl rfl)) pgs_nil)))
            (pss_one (ps_if (PW.pt (pw_and (pt_cmpR op_eq (pv 9) (pe_ix ix_list (pv 4) (pv 5) (fun _ _ => rfl)) (nomark _)) (pw_and (pt_cmpR op_in_seq (pv 10) (pv 2) (by rfl)) (pw_and1 (pt_cmpR op_notIn_seq (pv 10) (pv 4) (by rfl))))))
              (pss_one (ps_expr (pe_bm PySem.F.plainAttrs_list PySem.F.slot_list_append PySem.F.type_list_append mt_append (pv 4) (pa_cons (pv 10) pa_nil)))) pss_nil)))))
        (pss_one (ps_aug (i := 5) scParts.nd rfl (Or.inl rfl) pe_int ip_add))))
      (pss_cons (ps_expr (pe_bm PySem.F.plainAttrs_list PySem.F.slot_list_append PySem.F.type_list_append mt_append (pv 3) (pa_cons (pe_callTy call_tuple_of (by rfl) T.b_tuple (by decide +kernel) (pa_cons (pe_callB cr_sorted (by rfl) T.b_sorted (by decide +kernel) (pa_cons (pv 4) pa_nil)) pa_nil)) pa_nil)))
      (pss_one (ps_setLc (i := 2) (own := [("x", 11)]) (g := gName 11) (tt := tTest (tOp (rIn K true) (tVar 11) (tVar 4))) (te := tVar 11) rfl scParts.nd rfl rfl (sw_true rfl rfl rfl (by decide +kernel)) (pi_list (pv 2)) (blkOk_by (by kernel_rfl))
        (fun _ _ _ _ _ => pg_name (i := 11) scParts.nd rfl (Or.inl rfl)) (fun _ _ _ _ _ => pts_one (pt_cmpR op_notIn_seq (pv 11) (pv 4) (by rfl))) (fun _ _ _ _ _ => pv 11)))))))
    (pss_one (ps_ret (pe_callB (cr_sortedD (hu8 hr)) (by rfl) T.b_sorted (by decide +kernel) (pa_cons (pv 3) pa_nil))))), ?_⟩
  -- left, found = (list(points), [])
  refine ⟨_, rfl, pp, _, rfl, .inl (sq_of hp), fun pL nL => ⟨Nat.zero_le _, fun pF nF => ⟨_, _, rfl, ?_⟩⟩⟩
  have hne : pF ≠ pL := fun e => by
    rw [e, upd_same] at nF
    cases nF
  have e1 : Ex H (upd (upd H pL (.lst ((List.range n).map nV))) pF (.lst [])) := (Ex.new nL).trans (Ex.new nF)
  have nF0 : H pF = none := by
    rw [upd_ne hne] at nF
    exact nF
  refine s_while (D := { nx := _, rt := Q }) (fun m σ H2 => ∃ v4 v5 v6 v7 v8 v9 v10 v11 pL', σ = [some (.ref pp), some (.ref pr), some (.ref pL'), some (.ref pF), v4, v5, v6, v7, v8, v9, v10, v11] ∧ Ex H H2 ∧
      ((m = 1 ∧ pL' = pL ∧ H2 pL = some (.lst ((List.range n).map nV)) ∧ H2 pF = some (.lst [])) ∨ (m = 0 ∧ H2 pL' = some (.lst []) ∧ ∃ (q : Addr) (l : List Int), H2 pF = some (.lst [.ref q]) ∧ H2 q = some (.tup (l.map V.int)) ∧ l ≠ []))) 1
    ⟨_, _, _, _, _, _, _, _, pL, rfl, e1, .inl ⟨rfl, rfl, by rw [upd_ne hne.symm]; exact upd_same, upd_same⟩⟩ ?_
  rintro m σ H2 ⟨v4, v5, v6, v7, v8, v9, v10, v11, pL', rfl, ex2, ⟨rfl, rfl, hL, hF⟩ | ⟨rfl, hL, t, l, hF, ht, hl⟩⟩
  · -- the first turn
    have ne0 : decide (zN (List.range n) = []) = false := decide_eq_false fun e => by
      have z := congrArg List.length e
      have := J.one
      unfold zN at z
      rw [List.length_map, List.length_range] at z
      have z2 : n = 0 := z
      omega
    refine ⟨true, ev_is_t (et_test (ev_neL (a := zN (List.range n)) (b := []) (evP_ref (ev_var (i := 2) rfl) (by rw [zN_V]; exact hL)) fun _ _ => evP_nil)) (by rw [ne0]; rfl), fun _ H3 e3 => ?_, (fun h => by cases h)⟩
    have hL3 := e3 _ _ hL
    have hF3 := e3 _ _ hF
    have i0 : ((List.range n).map nV)[0]? = some (nV 0) := ix_nat (by rw [List.getElem?_range (by have := J.one; omega)])
    refine ⟨fun σ H' => ∃ v4 v5 v6 v7 v8 v9 v10 v11 pL', σ = [some (.ref pp), some (.ref pr), some (.ref pL'), some (.ref pF), v4, v5, v6, v7, v8, v9, v10, v11] ∧ Ex H H' ∧ H' pL' = some (.lst []) ∧ ∃ (q : Addr) (l : List Int), H' pF = some (.lst [.ref q]) ∧ H' q = some (.tup (l.map V.int)) ∧ l ≠ [],
      fun σ2 H4 ⟨v4, v5, v6, v7, v8, v9, v10, v11, pL', z1, z2, z3, z4⟩ => ⟨0, by decide, v4, v5, v6, v7, v8, v9, v10, v11, pL', z1, z2, .inr ⟨rfl, z3, z4⟩⟩, ?_⟩
    -- part, at = ([left[0]], 0)
    refine ⟨_, rfl, pL', _, 0, _, rfl, rfl, sq_of hL3, atI_nat i0, one_line, fun pP nP => ⟨two_line, fun t nt => ?_⟩⟩
    have nPL : pP ≠ pL' := (ne_of_none hL3 nP).symm
    have nPF : pP ≠ pF := (ne_of_none hF3 nP).symm
    have eP := Ex.new nP (o := .lst [nV 0])
    have eT := Ex.new nt (o := .tup [.ref pP, .int 0])
    have S1 : PartAt H n pL' pF pP (upd (upd H3 pP (.lst [nV 0])) t (.tup [.ref pP, .int 0])) [0] := PartAt.grow (H1 := upd H3 pP (.lst [nV 0])) ⟨(ex2.trans e3).trans eP, eP _ _ hL3, eP _ _ hF3, upd_same, fresh_back (ex2.trans e3) nP, nPL, nPF⟩ eT
    refine g_pair (H := upd (upd H3 pP (.lst [nV 0])) t (.tup [.ref pP, .int 0])) upd_same ?_
    refine grow_all J hrd hy S1 (by omega) fun H4 part w5 w6 w7 w8 w9 w10 S4 G4 all => ?_
    -- found.append(tuple(sorted(part)))
    have hlen : part.length ≤ n := nodup_length G4.nd G4.bd
    have hP4 : H4 pP = some (.lst ((zN part).map V.int)) := by
      rw [zN_V]
      exact S4.pt
    refine ⟨_, rfl, .inl ⟨rfl, _, sq_of S4.fd⟩, _, rfl, pP, zN part, rfl, sq_of hP4, ?_, fun ns' p5 pm _ n5 => ⟨p5, _, rfl, .inl ⟨sq_of upd_same, fun t6 n6 => ?_⟩⟩⟩
    · unfold zN
      rw [List.length_map]
      omega
    have e5 := Ex.new n5 (o := .lst (ns'.map V.int))
    have e6 := Ex.new n6 (o := .tup (ns'.map V.int))
    have S6 := (S4.grow e5).grow e6
    have h6 : upd (upd H4 p5 (.lst (ns'.map V.int))) t6 (.tup (ns'.map V.int)) t6 = some (.tup (ns'.map V.int)) := upd_same
    generalize upd (upd H4 p5 (.lst (ns'.map V.int))) t6 (.tup (ns'.map V.int)) = H6 at S6 h6 ⊢
    refine ⟨pF, [], _, rfl, rfl, S6.fd, by decide, ?_⟩
    have t6F : t6 ≠ pF := ne_of h6 S6.fd (by intro z; cases z)
    have tPF : pP ≠ pF := nPF
    have hF7 : upd H6 pF (.lst ([] ++ [.ref t6])) pF = some (.lst [.ref t6]) := upd_same
    have h67 : upd H6 pF (.lst ([] ++ [.ref t6])) t6 = some (.tup (ns'.map V.int)) := by rw [upd_ne t6F]; exact h6
    have hL7 : upd H6 pF (.lst ([] ++ [.ref t6])) pL' = some (.lst ((List.range n).map nV)) := by rw [upd_ne hne.symm]; exact S6.lf
    have hP7 : upd H6 pF (.lst ([] ++ [.ref t6])) pP = some (.lst (part.map nV)) := by rw [upd_ne nPF]; exact S6.pt
    have ex7 : Ex H (upd H6 pF (.lst ([] ++ [.ref t6]))) := Ex.mut S6.ex nF0
    generalize upd H6 pF (.lst ([] ++ [.ref t6])) = H7 at hF7 h67 hL7 hP7 ex7 ⊢
    -- left = [x for x in left if x not in part]
    have fl : (List.range n).filter (fun x => !decide (x ∈ part)) = [] := List.filter_eq_nil_iff.mpr fun x hx => by
      rw [decide_eq_true (all x (List.mem_range.mp hx))]
      decide
    have key := elP_lst (K := K) (R := fun (b : Nat) v _ => v = nV b) (gt := gName 11) (tt := tTest (tOp (rIn K true) (tVar 11) (tVar 4))) (te := tVar 11) (vs := [11]) (σ := [some (.ref pp), some (.ref pr), some (.ref pL'), some (.ref pF), some (.ref pP), w5, w6, w7, w8, w9, w10, v11]) (H := H7)
      ⟨fun _ _ _ _ _ h => h, fun _ _ _ _ _ _ _ h => h⟩ (tl := tVar 2) (as := List.range n) (fun x => !decide (x ∈ part)) id (evP_lst same_mono (ev_var rfl) ⟨_, hL7, rel_nV _⟩) (by rw [List.length_range]; omega) fun x v H8 e8 hx hv => by
        subst hv
        refine lcTurn_name rfl ?_ fun _ => ev_p (ev_var rfl)
        have z := et_cmp (ev_var (σ := [some (.ref pp), some (.ref pr), some (.ref pL'), some (.ref pF), some (.ref pP), w5, w6, w7, w8, w9, w10, some (nV x)]) (i := 11) rfl) (ev_var (i := 4) rfl) (rv_niL (K := K) (sq_of (e8 _ _ hP7)) rfl (flat_nat _) (x := nV x))
        rw [inV_nat] at z
        exact z
    rw [fl] at key
    refine s_asgN key fun pL2 H8 n8 e8 h8 => ?_
    obtain ⟨zs, h81, h82⟩ := h8
    cases h82
    refine ⟨_, w5, w6, w7, w8, w9, w10, v11, pL2, rfl, ex7.trans e8, h81, t6, ns', e8 _ _ hF7, e8 _ _ h67, fun e => ?_⟩
    subst e
    have z := pm.symm.eq_nil
    have z2 : part = [] := by
      cases part with
      | nil => rfl
      | cons a r => cases z
    rw [z2] at G4
    cases G4.hd
  · -- behind it
    refine ⟨false, ev_is_t (et_test (ev_neL (a := []) (b := []) (evP_ref (ev_var (i := 2) rfl) hL) fun _ _ => evP_nil)) rfl, (fun h => by cases h), fun _ H3 e3 => ?_⟩
    have hF3 := e3 _ _ hF
    have ht3 := e3 _ _ ht
    refine ⟨_, rfl, pF, [.ref t], [.tuple (l.map .int)], rfl, sq_of hF3, .cons (dp_tup ht3) .nil, ?_, ?_, ?_, fun zs p hz np => ?_⟩
    · intro d hd d' hd'
      rw [List.mem_singleton.mp hd, List.mem_singleton.mp hd']
      simp only [PySem.W.alike]
      exact PySem.W.alike_ints l l
    · refine .inl fun d hd => ?_
      rw [List.mem_singleton.mp hd]
      cases l with
      | nil => exact absurd rfl hl
      | cons x r => exact ⟨_, _, rfl⟩
    · intro d hd
      rw [List.mem_singleton.mp hd]
      simp only [PyData.depth, dep_ints]
      decide
    · have ez : zs = [.ref t] := List.perm_singleton.mp hz
      subst ez
      exact q p t _ ((ex2.trans e3).trans (Ex.new np)) upd_same
end
end NH
namespace NH
open PySem L2 Evl
/-! ### what a web is -/
structure WebOk (ws : List Int) (rs : List Road) : Prop where
  n2 : 2 ≤ ws.length
  n7 : ws.length ≤ 7
  wts : ∀ x ∈ ws, 0 ≤ x ∧ x ≤ 100
  sum : 0 < ws.sum
  len : rs.length ≤ 14
  rd : RdOk ws.length rs
  most : ∀ r ∈ rs, r.2.2 ≤ 100
  joined : Joined ws.length rs
  ways : ∀ i j, i < ws.length → j < ws.length → ∃ L, W rs i j L ∧ L ≤ sumLen rs
/-! ### a for over enumerate(a tuple) -/
theorem for_enumT {K : PySem.W.Frag} {a : Addr} {xs : List V} {g : TG} {tb : TS} {D : Ends} {σ : L2.St} {H : Hp} (Pv : Nat → L2.St → Hp → Prop) (h0 : Pv 0 σ H) (hl : ∀ i σ H, Pv i σ H → SqT K H a xs)
    (hs : ∀ (i : Nat) (x : V) (T : Addr) σ H, xs[i]? = some x → Pv i σ H → H T = none → g (.ref T) σ (upd H T (.tup [.int (i : Int), x])) fun σ2 H2 => tb { D with nx := Pv (i + 1), ct := Pv (i + 1), bk := D.nx } σ2 H2) (hd : ∀ σ H, Pv xs.length σ H → D.nx σ H) :
    ∃ W : Nat → Nat → L2.St → Hp → Prop, (∃ m, W 0 m σ H) ∧ ∀ i m σ H, W i m σ H →
      ((IteT K a).stop i H ∧ D.nx σ H) ∨ ((IteT K a).go i H ∧ ∃ N : L2.St → Hp → Prop, (∀ σ' H', N σ' H' → ∃ m', m' < m ∧ W (i + 1) m' σ' H') ∧ ∀ v H', (IteT K a).yld i H v H' → g v σ H' fun σ2 H2 => tb { D with nx := N, ct := N, bk := D.nx } σ2 H2) := by
  refine ⟨fun i m σ H => m = xs.length - i ∧ i ≤ xs.length ∧ Pv i σ H, ⟨xs.length, by simp, Nat.zero_le _, h0⟩, ?_⟩
  rintro i m σ H ⟨rfl, hi, p⟩
  have q := hl i σ H p
  by_cases hlt : i < xs.length
  · refine .inr ⟨⟨xs, xs[i], q, List.getElem?_eq_getElem hlt⟩, Pv (i + 1), fun σ' H' p' => ⟨xs.length - (i + 1), by omega, rfl, hlt, p'⟩, fun v H' hy => ?_⟩
    obtain ⟨T, x, rfl, nT, rfl, f1⟩ := hy
    exact hs i x T σ H (f1 xs q) p nT
  · have e : i = xs.length := by omega
    subst e
    exact .inl ⟨⟨xs, q, rfl⟩, hd σ H p⟩
/-- the first two of three -/
theorem cut2 (x y z : V) : cutV [x, y, z] none (some 2) = [x, y] := rfl
def PairR (r : Road) (v : V) (H : Hp) : Prop := ∃ a, v = .ref a ∧ H a = some (.tup [.int (r.1 : Int), .int (r.2.1 : Int)])
theorem stays_pair : Stays PairR := ⟨fun b v H H' e ⟨a, h1, h2⟩ => ⟨a, h1, e _ _ h2⟩, fun b v H p xs ys hp ⟨a, h1, h2⟩ => ⟨a, h1, tup_keep hp h2⟩⟩
theorem dp_pairs {K : PySem.W.Frag} {H : Hp} : ∀ {rs : List Road} {ys : List V}, Rel PairR H rs ys → DpAll K H ys ((rs.map fun r => [(r.1 : Int), (r.2.1 : Int)]).map fun h => .tuple (h.map PyData.int))
  | _, _, .nil => .nil
  | _, _, .cons ⟨a, h1, h2⟩ t => by
    subst h1
    exact .cons (.tup (st_of h2) (.cons (.int _) (.cons (.int _) .nil))) (dp_pairs t)
/-- is the pair of r among the pairs of rs -/
theorem pair_any (rs : List Road) (r : Road) : (((rs.map fun r => [(r.1 : Int), (r.2.1 : Int)]).map fun h => PyData.tuple (h.map PyData.int)).any fun z => PyData.eqv z (.tuple (([(r.1 : Int), (r.2.1 : Int)] : List Int).map PyData.int))) = decide ((r.1, r.2.1) ∈ rs.map fun r => (r.1, r.2.1)) := by
  induction rs with
  | nil => rfl
  | cons s rs ih =>
    rw [List.map_cons, List.map_cons, List.any_cons, ih, eqv_ti, ← Bool.decide_or]
    refine decide_eq_decide.mpr ⟨fun h => ?_, fun h => ?_⟩
    · rcases h with h | h
      · injection h with h1 h2
        injection h2 with h2 _
        have e1 : s.1 = r.1 := by omega
        have e2 : s.2.1 = r.2.1 := by omega
        rw [List.map_cons, e1, e2]
        exact List.mem_cons_self
      · exact List.mem_cons_of_mem _ h
    · rcases List.mem_cons.mp h with h | h
      · injection h with h1 h2
        exact .inl (by rw [h1, h2])
      · exact .inr h

theorem rgV_nat (n : Nat) : rgV 0 (n : Int) = (List.range n).map nV := by
  unfold rgV
  have e : ((n : Int) - 0).toNat = n := by omega
  rw [e]
  exact List.map_congr_left fun i _ => by rw [Int.zero_add]
/-- list(range(n)) -/
theorem el_listRg {σ : L2.St} {H : Hp} {te : TE} {n : Nat} (h : Ev te σ H (.int (n : Int))) (hn : n ≤ 100000) : EvL (tLstRg (tRg1 te)) σ H ((List.range n).map nV) := fun H1 e Q q =>
  h H1 e _ fun H2 e2 => ⟨(n : Int), rfl, RgOk.of_le (by omega) (by omega) (by omega) (by omega), fun p np => q p _ (fresh_back e2 np) (e2.trans (Ex.new np)) (by rw [rgV_nat]; exact upd_same)⟩
end NH
namespace NH
open PySem L2 Evl
section
variable {P : Program} {w : World} {K : PySem.W.Frag} {mg : Str → Option Value} {base : Heap} {f : Addr} {fd : FuncData}
def spNeedWeb : Sp := fun vs H Q _ => ∃ (p pw pr : Addr) (ws : List Int) (rs : List Road), vs = [.ref p] ∧ WebAt H p pw pr ws rs ∧ WebOk ws rs ∧ ∀ H', Ex H H' → Q .non H'
theorem scNeedWeb : FnScope ["web", "pairs", "index", "one"] ["web"] (defScope s_need_web) := ⟨rfl, rfl, rfl, by decide +kernel, rfl, by decide +kernel, by decide +kernel⟩
theorem eu_cut2 {σ : L2.St} {H : Hp} {te th : TE} {T : Addr} {x y z : V} (h : Ev te σ H (.ref T)) (h2 : Ev th σ H (.int 2)) (hT : H T = some (.tup [x, y, z])) : EvU (tSl (rSlT K) te tNoPart (tPart th)) σ H [x, y] := fun H1 e Q q =>
  h H1 e _ fun H2 e2 => h2 H2 (e.trans e2) _ fun H3 e3 => ⟨2, rfl, T, _, rfl, st_of (e3 _ _ (e2 _ _ (e _ _ hT))), (fun z => absurd (show (2 : Nat) = 3 from z.2) (by decide)), fun p np => q p _ (fresh_back (e2.trans e3) np) ((e2.trans e3).trans (Ex.new np)) upd_same⟩
theorem ok_need_web (T : Txt K mg) (CR : Cl P w K mg base "is_road" 2 ["value", "count"] spIsRoad) (CW : Cl P w K mg base "is_weights" 2 ["value"] spIsWeights) (CP : Cl P w K mg base "parts_in" 1 ["points", "roads"] spParts)
    (F : Fun K "need_web" "need_web" s_need_web f fd) : FnOk P w K mg base CX0 3 f fd ["web"] spNeedWeb := by
  refine F.ok scNeedWeb (fun vs H Q E h => ?_) (fun cdv A outer s H vs Q E hr h => ?_)
  · obtain ⟨_, _, _, _, _, rfl, _⟩ := h
    rfl
  obtain ⟨p, pw, pr, ws, rs, rfl, hW, ok, q⟩ := h
  obtain ⟨t1, hc1⟩ := T.c_MOST_ROADS
  have hr1 := hr.mono (show 1 ≤ 2 by decide)
  refine ⟨_, pss_cons (ps_if (PW.pt (pw_or (pt_not (pt_val (pe_callB call_isi (by rfl) T.b_isinstance (by decide +kernel) (pa_cons (pv 0) (pa_cons (pe_bltn (by rfl) T.b_tuple (by decide +kernel) (v := .ty "tuple") rfl) pa_nil)))))
      (pw_or (pt_cmpR op_ne (pe_callB call_len_seq (by rfl) T.b_len PySem.boot_len (pa_cons (pv 0) pa_nil)) pe_int (nomark _)) (pw_or1 (pt_not (pt_val (pe_cl CW hr (by rfl) (pa_cons (pe_ix ix_tup (pv 0) pe_int (fun _ _ => rfl)) pa_nil)))))))) (pss_one ps_never) pss_nil)
    (pss_cons (ps_if (PW.pt (pw_or (pt_not (pt_val (pe_callB call_isi (by rfl) T.b_isinstance (by decide +kernel) (pa_cons (pe_ix ix_tup (pv 0) pe_int (fun _ _ => rfl)) (pa_cons (pe_bltn (by rfl) T.b_tuple (by decide +kernel) (v := .ty "tuple") rfl) pa_nil)))))
      (pw_or1 (pt_cmpR op_gt (pe_callB call_len_seq (by rfl) T.b_len PySem.boot_len (pa_cons (pe_ix ix_tup (pv 0) pe_int (fun _ _ => rfl)) pa_nil)) (pe_glob (v := .int 14) (by rfl) hc1 ⟨_, rfl⟩) (nomark _))))) (pss_one ps_never) pss_nil)
    (pss_cons (ps_set (i := 1) scNeedWeb.nd rfl (Or.inl rfl) (pe_lst pa_nil))
    (pss_cons (ps_for PassesOwn.never rfl (pi_enumT (by rfl) T.b_enumerate (pa_cons (pe_ix ix_tup (pv 0) pe_int (fun _ _ => rfl)) pa_nil)) (pg_tup rfl (pgs_cons (pg_name (i := 2) scNeedWeb.nd rfl (Or.inl rfl)) (pgs_cons (pg_name (i := 3) scNeedWeb.nd rfl (Or.inl rfl)) pgs_nil)))
      (pss_cons (ps_if (PW.pt (pw_or (pt_not (pt_val (pe_cl CR hr (by rfl) (pa_cons (pv 3) (pa_cons (pe_callB call_len_seq (by rfl) T.b_len PySem.boot_len (pa_cons (pe_ix ix_tup (pv 0) pe_int (fun _ _ => rfl)) pa_nil)) pa_nil)))))
        (pw_or1 (pt_cmpR (op_inD (hu65 hr)) (pe_slice sl_tup (pv 3) po_none (po_some pe_int)) (pv 1) (by rfl))))) (pss_one ps_never) pss_nil)
      (pss_one (ps_expr (pe_bm PySem.F.plainAttrs_list PySem.F.slot_list_append PySem.F.type_list_append mt_append (pv 1) (pa_cons (pe_slice sl_tup (pv 3) po_none (po_some pe_int)) pa_nil))))))
    (pss_one (ps_if (pt_cmpR op_gt (pe_callB call_len_seq (by rfl) T.b_len PySem.boot_len (pa_cons (pe_cl CP hr1 (by rfl) (pa_cons (pe_listRg rfl (by rfl) T.b_list (prg_1 (by rfl) T.b_range (pe_callB call_len_seq (by rfl) T.b_len PySem.boot_len (pa_cons (pe_ix ix_tup (pv 0) pe_int (fun _ _ => rfl)) pa_nil)))) (pa_cons (pe_ix ix_tup (pv 0) pe_int (fun _ _ => rfl)) pa_nil))) pa_nil)) pe_int (nomark _)) (pss_one ps_never) pss_nil))))), ?_⟩
  have lw : ((ws.map V.int).length : Int) = (ws.length : Int) := by rw [List.length_map]
  refine q_guard (et_or (et_not (et_B (ev_isi (b := true) (ev_var rfl) ev_c (ty_tup hW.web) (by decide +kernel)))) fun _ => et_or (et_cmp (ev_lenT (ev_var rfl) hW.web) ev_c (rv_ne rfl))
    fun _ => et_not (et_B (ev_cl (v := .bl true) (ea_one (ev_ixT (i := 0) (ev_var rfl) ev_c hW.web rfl)) fun H1 e Q q => ⟨pw, ws, rfl, e _ _ hW.wts, ok.n2, Nat.le_succ_of_le ok.n7, ok.wts, ok.sum, q⟩))) fun H1 e1 => ?_
  have hW1 := hW.mono e1
  obtain ⟨ys, hys, rel⟩ := hW1.rds
  have ly : (ys.length : Int) = (rs.length : Int) := by rw [rel.length]
  have hle := ok.len
  refine q_guard (et_or (et_not (et_B (ev_isi (b := true) (ev_ixT (i := 1) (ev_var rfl) ev_c hW1.web rfl) ev_c (ty_tup hys) (by decide +kernel))))
    fun _ => et_is (b := false) (et_cmp (ev_lenT (ev_ixT (i := 1) (ev_var rfl) ev_c hW1.web rfl) hys) ev_c rv_I0) (decide_eq_false (by show ¬ ((14 : Int) < (ys.length : Int)); omega))) fun H2 e2 => ?_
  -- pairs = []
  refine q_asgL el_nil fun pP H3 n3 e3 hP => ?_
  have e13 := (e1.trans e2).trans e3
  have nP0 : H pP = none := fresh_back (e1.trans e2) n3
  have hW3 := hW.mono e13
  have hys3 := e3 _ _ (e2 _ _ hys)
  refine ⟨_, rfl, p, [.ref pw, .ref pr], 1, .ref pr, rfl, rfl, st_of hW3.web, rfl, pr, ys, rfl, st_of hys3, for_enumT (K := K) (a := pr) (xs := ys) (fun i σ H' => ∃ u2 u3 zs, σ = [some (.ref p), some (.ref pP), u2, u3] ∧ Ex H2 H' ∧ H' pr = some (.tup ys) ∧ H' pP = some (.lst zs) ∧ Rel PairR H' (rs.take i) zs)
    ⟨_, _, [], rfl, e3, hys3, hP, .nil⟩ (fun i σ H' ⟨_, _, _, _, _, h, _⟩ => st_of h) ?_ ?_⟩
  · rintro i x t σ H4 hx ⟨u2, u3, zs, rfl, e4, hy4, hP4, rz⟩ nt
    obtain ⟨r, hr', a, rfl, ha0⟩ := rel.get hx
    have hm := List.mem_of_getElem? hr'
    obtain ⟨b1, b2, b3⟩ := And.intro (ok.rd.lt r hm) (And.intro (ok.rd.bd r hm) (And.intro (ok.rd.pos r hm) (ok.most r hm)))
    have eT := Ex.new nt (o := .tup [.int (i : Int), .ref a])
    refine g_pair (H := upd H4 t (.tup [.int (i : Int), .ref a])) upd_same ?_
    have ex5 := e4.trans eT
    have hW5 := hW.mono ((e1.trans e2).trans ex5)
    have ha5 : upd H4 t (.tup [.int (i : Int), .ref a]) a = some (.tup [.int (r.1 : Int), .int (r.2.1 : Int), .int r.2.2]) := eT _ _ (e4 _ _ (e2 _ _ ha0))
    have hy5 := eT _ _ hy4
    have hP5 := eT _ _ hP4
    have rz5 := rz.mono stays_pair.mono eT
    generalize upd H4 t (.tup [.int (i : Int), .ref a]) = H5 at ex5 hW5 ha5 hy5 hP5 rz5 ⊢
    have hnew : decide ((r.1, r.2.1) ∈ (rs.take i).map fun r => (r.1, r.2.1)) = false := decide_eq_false fun hin => by
      have nod := ok.rd.nod
      have sp : rs = rs.take i ++ r :: rs.drop (i + 1) := by
        have hi := (List.getElem?_eq_some_iff.mp hr')
        rw [← hi.2]
        simp
      rw [sp, List.map_append, List.map_cons] at nod
      exact (List.nodup_append.mp nod).2.2 _ hin _ List.mem_cons_self rfl
    refine q_guard (et_or (et_not (et_B (ev_cl (v := .bl true) (ea_cons (ev_var rfl) (ea_one (ev_is (ev_lenT (ev_ixT (i := 0) (ev_var rfl) ev_c hW5.web rfl) hW5.wts) (by rw [lw])))) fun H6 e6 Q' q' => ⟨a, ws.length, r.1, r.2.1, r.2.2, rfl, e6 _ _ ha5, by omega, by omega, by omega, by omega, b3.2, q'⟩)))
      fun _ => et_is (b := false) (et_test (b := decide ((r.1, r.2.1) ∈ (rs.take i).map fun r => (r.1, r.2.1))) fun H6 e6 Q' q' => eu_cut2 (K := K) (ev_var rfl) ev_c ha5 H6 e6 _ fun p7 H7 n7 e7 h7 => ⟨.ref pP, rfl, .tuple (([(r.1 : Int), (r.2.1 : Int)] : List Int).map PyData.int), _, .tup (st_of h7) (.cons (.int _) (.cons (.int _) .nil)),
          .lst (sq_of (e7 _ _ (e6 _ _ hP5))) (dp_pairs (rz5.mono stays_pair.mono (e6.trans e7))), shaped_ti _, shaped_lt _, by rw [pair_any]; exact q' H7 e7⟩) hnew) fun H6 e6 => ?_
    refine s_appU (e6 _ _ hP5) (ev_var rfl) (eu_cut2 (ev_var rfl) ev_c (e6 _ _ ha5)) (by have := rz5.length; rw [List.length_take] at this; omega) fun p7 H7 n7 e7 h7 => ?_
    have hP7 := e7 _ _ (e6 _ _ hP5)
    refine ⟨_, _, _, rfl, Ex.mut ((ex5.trans e6).trans e7) n3, ?_, upd_same, ?_⟩
    · exact tup_keep hP7 (e7 _ _ (e6 _ _ hy5))
    · rw [List.take_add_one, hr']
      have z : Rel PairR H7 (rs.take i ++ [r]) (zs ++ [.ref p7]) := (rz5.mono stays_pair.mono (e6.trans e7)).snoc ⟨p7, rfl, h7⟩
      exact Paired.mapP z fun b v hb => stays_pair.list b v H7 pP zs _ hP7 hb
  · rintro σ H4 ⟨u2, u3, zs, rfl, e4, hy4, hP4, rz⟩
    have hW4 := hW.mono ((e1.trans e2).trans e4)
    have hn : ws.length ≤ 60 := by have := ok.n7; omega
    dsimp only
    refine s_guard (D := { nx := fun _ H' => Q .non H', rt := Q }) (et_is (b := false) (et_cmp (ev_lenP (n := 1) (evP_callP (eap_two (P := fun v H' => ∃ pp, v = .ref pp ∧ H' pp = some (.lst ((List.range ws.length).map nV))) (fun v H H' e ⟨pp, h1, h2⟩ => ⟨pp, h1, e _ _ h2⟩)
      (evP_new (el_listRg (n := ws.length) (ev_is (ev_lenT (ev_ixT (i := 0) (ev_var rfl) ev_c hW4.web rfl) hW4.wts) (by rw [List.length_map])) (by omega))) fun H5 e5 => evP_ref (ev_ixT (i := 1) (ev_var rfl) ev_c (e5 _ _ hW4.web) rfl) (e5 _ _ hy4)) ?_)) ev_c (rv_I0 (g := fun i j => .bl (decide (j < i)))))
      (decide_eq_false (by show ¬ ((1 : Int) < 1); omega))) fun H5 e5 => q H5 (((e1.trans e2).trans e4).trans e5)
    rintro vs H5 e5 ⟨v, u, rfl, ⟨pp, rfl, hpp⟩, ⟨pr', rfl, hpr'⟩⟩ Q' q'
    exact ⟨pp, pr', ws.length, rs, ys, rfl, hpp, hpr', rel.mono stays_road.mono ((e2.trans e4).trans e5), ok.joined, hn, fun p2 q2 H7 e7 h7 => q' _ H7 e7 ⟨p2, _, rfl, h7, rfl⟩⟩
end
end NH
namespace NH
open PySem L2 Evl
/-- two rising lists with the same members -/
theorem rising_same : ∀ {a b : List Int}, a.Pairwise (· < ·) → b.Pairwise (· < ·) → (∀ x, x ∈ a ↔ x ∈ b) → a = b
  | [], [], _, _, _ => rfl
  | [], y :: b, _, _, h => absurd ((h y).mpr List.mem_cons_self) List.not_mem_nil
  | x :: a, [], _, _, h => absurd ((h x).mp List.mem_cons_self) List.not_mem_nil
  | x :: a, y :: b, ha, hb, h => by
    obtain ⟨a1, a2⟩ := List.pairwise_cons.mp ha
    obtain ⟨b1, b2⟩ := List.pairwise_cons.mp hb
    have e : x = y := by
      rcases List.mem_cons.mp ((h x).mp List.mem_cons_self) with q | q
      · exact q
      · rcases List.mem_cons.mp ((h y).mpr List.mem_cons_self) with q2 | q2
        · exact q2.symm
        · have := b1 x q
          have := a1 y q2
          omega
    subst e
    rw [rising_same a2 b2 fun z => ⟨fun hz => ?_, fun hz => ?_⟩]
    · have := a1 z hz
      rcases List.mem_cons.mp ((h z).mp (List.mem_cons_of_mem _ hz)) with q | q
      · omega
      · exact q
    · have := b1 z hz
      rcases List.mem_cons.mp ((h z).mpr (List.mem_cons_of_mem _ hz)) with q | q
      · omega
      · exact q
/-- houses of a web with n points -/
structure HsOk (n : Nat) (hs : List Nat) : Prop where
  ne : hs ≠ []
  up : hs.Pairwise (· < ·)
  bd : ∀ x ∈ hs, x < n
theorem zN_rising {hs : List Nat} (h : hs.Pairwise (· < ·)) : (zN hs).Pairwise (· < ·) := by
  unfold zN
  rw [List.pairwise_map]
  exact h.imp fun {a b} hab => by
    show (a : Int) < (b : Int)
    omega
theorem HsOk.nd {n : Nat} {hs : List Nat} (h : HsOk n hs) : hs.Nodup := h.up.imp fun {a b} hab => by omega
theorem HsOk.len {n : Nat} {hs : List Nat} (h : HsOk n hs) : hs.length ≤ n := nodup_length h.nd h.bd
theorem mem_zN {hs : List Nat} {k : Int} : k ∈ zN hs ↔ ∃ x ∈ hs, k = (x : Int) := by
  unfold zN
  rw [List.mem_map]
  exact ⟨fun ⟨x, h1, h2⟩ => ⟨x, h1, h2.symm⟩, fun ⟨x, h1, h2⟩ => ⟨x, h1, h2.symm⟩⟩
section
variable {P : Program} {w : World} {K : PySem.W.Frag} {mg : Str → Option Value} {base : Heap} {f : Addr} {fd : FuncData}
/-- sorted(set(t)) of rising places is the list of them -/
theorem evP_sortset {σ : L2.St} {H : Hp} {te : TE} {ph : Addr} {hs : List Nat} (h : Ev te σ H (.ref ph)) (hH : H ph = some (.tup (hs.map nV))) (up : hs.Pairwise (· < ·)) (hl : hs.length < 64) :
    EvP (tCB (rSortedSet w) (tCons (tCB (rSetT K w) (tCons te tNil)) tNil)) σ H (fun v H' => ∃ p, v = .ref p ∧ H' p = some (.lst ((zN hs).map V.int))) := fun H1 e Q q =>
  h H1 e _ fun H2 e2 => ⟨ph, zN hs, rfl, by rw [zN_V]; exact st_of (e2 _ _ (e _ _ hH)), by unfold zN; rw [List.length_map]; omega, fun p c hc np => ⟨p, _, c, rfl, upd_same, by unfold zN at hc; rw [List.length_map] at hc; omega, fun ns p3 pw mem _ n3 => by
    have ens : ns = zN hs := rising_same pw (zN_rising up) fun x => by
      rw [mem, decide_eq_true_eq]
    subst ens
    exact q _ _ (e2.trans ((Ex.new np).trans (Ex.new n3))) ⟨p3, rfl, upd_same⟩⟩⟩
theorem evP_listT {σ : L2.St} {H : Hp} {te : TE} {ph : Addr} {xs : List V} (h : Ev te σ H (.ref ph)) (hH : H ph = some (.tup xs)) :
    EvP (tCB (fun xs H Q => ∃ p ys, xs = [V.ref p] ∧ (SqL K H p ys ∨ SqT K H p ys) ∧ ∀ l, H l = none → Q (.ref l) (upd H l (.lst ys))) (tCons te tNil)) σ H (fun v H' => ∃ p, v = .ref p ∧ H' p = some (.lst xs)) := fun H1 e Q q =>
  h H1 e _ fun H2 e2 => ⟨ph, xs, rfl, .inr (st_of (e2 _ _ (e _ _ hH))), fun l nl => q _ _ (e2.trans (Ex.new nl)) ⟨l, rfl, upd_same⟩⟩
def spNeedHouses : Sp := fun vs H Q _ => ∃ (p pw pr ph : Addr) (ws : List Int) (rs : List Road) (hs : List Nat), vs = [.ref p, .ref ph] ∧ WebAt H p pw pr ws rs ∧ ws.length ≤ 60 ∧ H ph = some (.tup (hs.map nV)) ∧ HsOk ws.length hs ∧ ∀ H', Ex H H' → Q .non H'
theorem scNeedHouses : FnScope ["web", "houses", "x"] ["web", "houses"] (defScope s_need_houses) := ⟨rfl, rfl, rfl, by decide +kernel, rfl, by decide +kernel, by decide +kernel⟩
theorem ok_need_houses (T : Txt K mg) (C : ClIn P w K mg base) (F : Fun K "need_houses" "need_houses" s_need_houses f fd) : FnOk P w K mg base CX0 2 f fd ["web", "houses"] spNeedHouses := by
  refine F.ok scNeedHouses (fun vs H Q E h => ?_) (fun cdv A outer s H vs Q E hr h => ?_)
  · obtain ⟨_, _, _, _, _, _, _, rfl, _⟩ := h
    rfl
  obtain ⟨p, pw, pr, ph, ws, rs, hs, rfl, hW, hw60, hH, ok, q⟩ := h
  refine ⟨_, pss_cons (ps_if (PW.pt (pw_or (pt_not (pt_val (pe_callB call_isi (by rfl) T.b_isinstance (by decide +kernel) (pa_cons (pv 1) (pa_cons (pe_bltn (by rfl) T.b_tuple (by decide +kernel) (v := .ty "tuple") rfl) pa_nil)))))
      (pw_or1 (pt_cmpR (op_eqD hr.units) (pv 1) (pe_tup pa_nil) (nomark _))))) (pss_one ps_never) pss_nil)
    (pss_one (ps_if (PW.pt (pw_or (pt_cmpR (op_neD hr.units) (pe_lc (own := [("x", 2)]) (g := gName 2) (tt := tNot (tB (tCall spIsIn [] E0 (tCons (tVar 2) (tCons (tC (.int 0)) (tCons (tOp (rI0 fun i j => .int (i - j)) (tCB (rLenQ K) (tCons (tOp (rIxT K) (tVar 0) (tC (.int 0))) tNil)) (tC (.int 1))) tNil)))))) (te := tVar 2) rfl scNeedHouses.nd (pi_tup (pv 1)) (blkOk_by (by kernel_rfl))
        (fun _ _ _ _ _ => pg_name (i := 2) scNeedHouses.nd rfl (Or.inl rfl)) (fun _ _ _ _ _ => pts_one (pt_not (pt_val (pe_cl C hr (by rfl) (pa_cons (pv 2) (pa_cons pe_int (pa_cons (pe_op op_sub (pe_callB call_len_seq (by rfl) T.b_len PySem.boot_len (pa_cons (pe_ix ix_tup (pv 0) pe_int (fun _ _ => rfl)) pa_nil)) pe_int) pa_nil)))))))
        (fun _ _ _ _ _ => pv 2)) (pe_lst pa_nil) (nomark _))
      (pw_or1 (pt_cmpR (op_neD hr.units) (pe_callTy call_list_of (by rfl) T.b_list (by decide +kernel) (pa_cons (pv 1) pa_nil)) (pe_callB (cr_sortedSet rfl) (by rfl) T.b_sorted (by decide +kernel) (pa_cons (pe_callTy (cr_setT rfl) (by rfl) T.b_set (by decide +kernel) (pa_cons (pv 1) pa_nil)) pa_nil)) (nomark _))))) (pss_one ps_never) pss_nil)), ?_⟩
  have hH' : H ph = some (.tup ((zN hs).map V.int)) := by rw [zN_V]; exact hH
  have l1 := ok.len
  have n1 : 0 < hs.length := List.length_pos_iff.mpr ok.ne
  refine q_guard (et_or (et_not (et_B (ev_isi (b := true) (ev_var rfl) ev_c (ty_tup hH) (by decide +kernel)))) fun _ => et_is (b := false) (et_test (ev_eqT (a := zN hs) (b := []) (evP_ref (ev_var rfl) hH') fun H1 e1 => (EvU.n (eu_tup ea_nil (by decide))).p)) (decide_eq_false fun z => ?_)) fun H1 e1 => ?_
  · have z2 := congrArg List.length z
    unfold zN at z2
    rw [List.length_map] at z2
    have z3 : hs.length = 0 := z2
    omega
  have hH1 := e1 _ _ hH
  have hW1 := hW.mono e1
  have fl : hs.filter (fun x : Nat => !decide ((0 : Int) ≤ (x : Int) ∧ (x : Int) ≤ (ws.length : Int) - 1)) = [] := List.filter_eq_nil_iff.mpr fun x hx => by
    have := ok.bd x hx
    rw [decide_eq_true (by omega)]
    decide
  have key := elP_tup (K := K) (R := fun (b : Int) v _ => v = .int b) (gt := gName 2) (tt := tNot (tB (tCall spIsIn [] E0 (tCons (tVar 2) (tCons (tC (.int 0)) (tCons (tOp (rI0 fun i j => .int (i - j)) (tCB (rLenQ K) (tCons (tOp (rIxT K) (tVar 0) (tC (.int 0))) tNil)) (tC (.int 1))) tNil)))))) (te := tVar 2) (vs := [2]) (σ := [some (.ref p), some (.ref ph), none]) (H := H1) Stays.int same_mono (as := hs)
    (fun x : Nat => !decide ((0 : Int) ≤ (x : Int) ∧ (x : Int) ≤ (ws.length : Int) - 1)) (fun x : Nat => (x : Int)) (evP_tup same_mono (ev_var (i := 1) rfl) hH1 (rel_nV hs)) (by omega) fun x v H2 e2 hx hv => by
      subst hv
      exact lcTurn_name rfl (et_not (et_B (ev_isin (ev_var rfl) ev_c (ev_is (ev_op (ev_lenT (ev_ixT (i := 0) (ev_var rfl) ev_c (e2 _ _ hW1.web) rfl) (e2 _ _ hW1.wts)) ev_c rv_I0) (by rw [List.length_map])) rfl))) fun _ => ev_p (ev_var rfl)
  rw [fl] at key
  have k2 := (key.imp fun p H' _ h => h.ints).p
  have hH1' : H1 ph = some (.tup ((zN hs).map V.int)) := e1 _ _ hH'
  refine s_guard (et_or (et_test (ev_neL k2 fun _ _ => evP_nil)) fun _ => et_is (b := false) (et_test (ev_neL (a := zN hs) (b := zN hs) (evP_listT (ev_var rfl) hH1') fun H2 e2 => evP_sortset (ev_var rfl) (e2 _ _ hH1) ok.up (by omega))) (by rw [decide_eq_true rfl]; rfl)) fun H2 e2 => q H2 (e1.trans e2)
def spNeedBoth : Sp := fun vs H Q _ => ∃ (p pw pr ph : Addr) (ws : List Int) (rs : List Road) (hs : List Nat), vs = [.ref p, .ref ph] ∧ WebAt H p pw pr ws rs ∧ WebOk ws rs ∧ H ph = some (.tup (hs.map nV)) ∧ HsOk ws.length hs ∧ ∀ H', Ex H H' → Q .non H'
theorem scNeedBoth : FnScope ["web", "houses"] ["web", "houses"] (defScope s_need_both) := ⟨rfl, rfl, rfl, by decide +kernel, rfl, by decide +kernel, by decide +kernel⟩
theorem ok_need_both (T : Txt K mg) (CW : Cl P w K mg base "need_web" 3 ["web"] spNeedWeb) (CH : Cl P w K mg base "need_houses" 2 ["web", "houses"] spNeedHouses) (F : Fun K "need_both" "need_both" s_need_both f fd) : FnOk P w K mg base CX0 4 f fd ["web", "houses"] spNeedBoth := by
  refine F.ok scNeedBoth (fun vs H Q E h => ?_) (fun cdv A outer s H vs Q E hr h => ?_)
  · obtain ⟨_, _, _, _, _, _, _, rfl, _⟩ := h
    rfl
  obtain ⟨p, pw, pr, ph, ws, rs, hs, rfl, hW, wok, hH, ok, q⟩ := h
  refine ⟨_, pss_cons (ps_expr (pe_cl CW hr (by rfl) (pa_cons (pv 0) pa_nil))) (pss_one (ps_expr (pe_cl CH (hr.mono (by decide)) (by rfl) (pa_cons (pv 0) (pa_cons (pv 1) pa_nil))))), ?_⟩
  refine q_drop (ev_cl (v := .non) (ea_one (ev_var rfl)) fun H1 e Q q => ⟨p, pw, pr, ws, rs, rfl, hW.mono e, wok, q⟩) fun H1 e1 => ?_
  exact s_drop (ev_cl (v := .non) (ea_cons (ev_var rfl) (ea_one (ev_var rfl))) fun H2 e Q q => ⟨p, pw, pr, ph, ws, rs, hs, rfl, (hW.mono e1).mono e, by have := wok.n7; omega, e _ _ (e1 _ _ hH), ok, q⟩) fun H2 e2 => q H2 (e1.trans e2)
def spNeedCount : Sp := fun vs H Q _ => ∃ (p pw pr : Addr) (k : Int) (ws : List Int) (rs : List Road), vs = [.ref p, .int k] ∧ WebAt H p pw pr ws rs ∧ 1 ≤ k ∧ k ≤ ws.length ∧ ∀ H', Ex H H' → Q .non H'
theorem scNeedCount : FnScope ["web", "count"] ["web", "count"] (defScope s_need_count) := ⟨rfl, rfl, rfl, by decide +kernel, rfl, by decide +kernel, by decide +kernel⟩
theorem ok_need_count (T : Txt K mg) (C : ClIn P w K mg base) (F : Fun K "need_count" "need_count" s_need_count f fd) : FnOk P w K mg base CX0 2 f fd ["web", "count"] spNeedCount := by
  refine F.ok scNeedCount (fun vs H Q E h => ?_) (fun cdv A outer s H vs Q E hr h => ?_)
  · obtain ⟨_, _, _, _, _, _, rfl, _⟩ := h
    rfl
  obtain ⟨p, pw, pr, k, ws, rs, rfl, hW, k1, k2, q⟩ := h
  refine ⟨_, pss_one (ps_if (pt_not (pt_val (pe_cl C hr (by rfl) (pa_cons (pv 1) (pa_cons pe_int (pa_cons (pe_callB call_len_seq (by rfl) T.b_len PySem.boot_len (pa_cons (pe_ix ix_tup (pv 0) pe_int (fun _ _ => rfl)) pa_nil)) pa_nil)))))) (pss_one ps_never) pss_nil), ?_⟩
  exact s_guard (et_not (et_B (ev_isin (b := true) (ev_var rfl) ev_c (ev_is (ev_lenT (ev_ixT (i := 0) (ev_var rfl) ev_c hW.web rfl) hW.wts) (by rw [List.length_map])) (decide_eq_true ⟨k1, k2⟩)))) fun H1 e1 => q H1 e1
def spNeedNumber : Sp := fun vs H Q _ => ∃ (p pw pr : Addr) (k : Int) (ws : List Int) (rs : List Road), vs = [.ref p, .int k] ∧ WebAt H p pw pr ws rs ∧ WebOk ws rs ∧ 1 ≤ k ∧ k ≤ ws.length ∧ ∀ H', Ex H H' → Q .non H'
theorem scNeedNumber : FnScope ["web", "count"] ["web", "count"] (defScope s_need_number) := ⟨rfl, rfl, rfl, by decide +kernel, rfl, by decide +kernel, by decide +kernel⟩
theorem ok_need_number (T : Txt K mg) (CW : Cl P w K mg base "need_web" 3 ["web"] spNeedWeb) (CC : Cl P w K mg base "need_count" 2 ["web", "count"] spNeedCount) (F : Fun K "need_number" "need_number" s_need_number f fd) : FnOk P w K mg base CX0 4 f fd ["web", "count"] spNeedNumber := by
  refine F.ok scNeedNumber (fun vs H Q E h => ?_) (fun cdv A outer s H vs Q E hr h => ?_)
  · obtain ⟨_, _, _, _, _, _, rfl, _⟩ := h
    rfl
  obtain ⟨p, pw, pr, k, ws, rs, rfl, hW, wok, k1, k2, q⟩ := h
  refine ⟨_, pss_cons (ps_expr (pe_cl CW hr (by rfl) (pa_cons (pv 0) pa_nil))) (pss_one (ps_expr (pe_cl CC (hr.mono (by decide)) (by rfl) (pa_cons (pv 0) (pa_cons (pv 1) pa_nil))))), ?_⟩
  refine q_drop (ev_cl (v := .non) (ea_one (ev_var rfl)) fun H1 e Q q => ⟨p, pw, pr, ws, rs, rfl, hW.mono e, wok, q⟩) fun H1 e1 => ?_
  exact s_drop (ev_cl (v := .non) (ea_cons (ev_var rfl) (ea_one (ev_var rfl))) fun H2 e Q q => ⟨p, pw, pr, k, ws, rs, rfl, (hW.mono e1).mono e, k1, k2, q⟩) fun H2 e2 => q H2 (e1.trans e2)
end
end NH
namespace NH
open PySem L2 Evl
/-! ### a table that is being filled: a list of lists of ints -/
structure Mat (H0 H : Hp) (p : Addr) (as : List Addr) (rows : List (List Int)) : Prop where
  ex : Ex H0 H
  top : H p = some (.lst (as.map V.ref))
  len : as.length = rows.length
  row : ∀ (i : Nat) a, as[i]? = some a → H a = some (.lst ((rows.getD i []).map V.int))
  nd : as.Nodup
  np : p ∉ as
  fp : H0 p = none
  fa : ∀ a ∈ as, H0 a = none
theorem Mat.grow {H0 H H1 : Hp} {p : Addr} {as : List Addr} {rows : List (List Int)} (h : Mat H0 H p as rows) (e : Ex H H1) : Mat H0 H1 p as rows :=
  ⟨h.ex.trans e, e _ _ h.top, h.len, fun i a hi => e _ _ (h.row i a hi), h.nd, h.np, h.fp, h.fa⟩
theorem Mat.rows {H0 H : Hp} {p : Addr} {as : List Addr} {rows : List (List Int)} (h : Mat H0 H p as rows) : RowsAt H p rows := by
  refine ⟨as.map V.ref, h.top, ?_⟩
  have key : ∀ (as : List Addr) (rs : List (List Int)), as.length = rs.length → (∀ (i : Nat) a, as[i]? = some a → H a = some (.lst ((rs.getD i []).map V.int))) → Rel RowR H rs (as.map V.ref) := by
    intro as
    induction as with
    | nil =>
      intro rs hl _
      cases rs with
      | nil => exact .nil
      | cons _ _ => cases hl
    | cons a as ih =>
      intro rs hl hr
      cases rs with
      | nil => cases hl
      | cons r rs => exact .cons ⟨a, rfl, hr 0 a rfl⟩ (ih rs (Nat.succ.inj hl) fun i b hb => hr (i + 1) b hb)
  exact key as rows h.len h.row
theorem Mat.at {H0 H : Hp} {p : Addr} {as : List Addr} {rows : List (List Int)} {n i : Nat} (h : Mat H0 H p as rows) (q : Sq n rows) (hi : i < n) : ∃ a, as[i]? = some a ∧ H a = some (.lst ((rows.getD i []).map V.int)) := by
  have hl : i < as.length := by rw [h.len, q.1]; exact hi
  exact ⟨as[i], List.getElem?_eq_getElem hl, h.row i _ (List.getElem?_eq_getElem hl)⟩
theorem Mat.put {H0 H : Hp} {p a : Addr} {as : List Addr} {rows : List (List Int)} {n i j : Nat} {v : Int} (h : Mat H0 H p as rows) (q : Sq n rows) (hi : i < n) (ha : as[i]? = some a) :
    Mat H0 (upd H a (.lst (((rows.getD i []).map V.int).set j (.int v)))) p as (setM rows i j v) := by
  have hm := List.mem_of_getElem? ha
  have hpa : p ≠ a := fun e => h.np (e ▸ hm)
  refine ⟨Ex.mut h.ex (h.fa a hm), by rw [upd_ne hpa]; exact h.top, by rw [h.len]; unfold setM; rw [List.length_set], fun k b hb => ?_, h.nd, h.np, h.fp, h.fa⟩
  have hil : i < rows.length := by rw [q.1]; exact hi
  by_cases e : k = i
  · subst e
    have eb : b = a := Option.some.inj (hb.symm.trans ha)
    subst eb
    rw [upd_same]
    have eg : (setM rows k j v).getD k [] = (rows.getD k []).set j v := by
      unfold setM
      rw [List.getD_eq_getElem?_getD, List.getElem?_set, if_pos rfl, if_pos hil]
      rfl
    rw [eg, List.map_set]
  · have hne : b ≠ a := fun e2 => by
      subst e2
      exact e (nd_ix h.nd hb ha)
    rw [upd_ne hne, h.row k b hb]
    have eg : (setM rows i j v).getD k [] = rows.getD k [] := by
      unfold setM
      rw [List.getD_eq_getElem?_getD, List.getElem?_set, if_neg (fun z => e z.symm), ← List.getD_eq_getElem?_getD]
    rw [eg]
section
variable {K : PySem.W.Frag} {σ : L2.St} {H0 H : Hp} {p : Addr} {as : List Addr} {rows : List (List Int)} {n i j : Nat} {tr ti tj te : TE} {D : Ends}
/-- rows[i] -/
theorem ev_matRow {a : Addr} (h : Mat H0 H p as rows) (hr : Ev tr σ H (.ref p)) (hi : Ev ti σ H (.int (i : Int))) (ha : as[i]? = some a) : Ev (tOp (rIxL K) tr ti) σ H (.ref a) :=
  ev_ixL hr hi h.top (by rw [List.getElem?_map, ha]; rfl)
/-- rows[i][j] -/
theorem ev_mat (h : Mat H0 H p as rows) (q : Sq n rows) (hi : i < n) (hj : j < n) (hr : Ev tr σ H (.ref p)) (h1 : Ev ti σ H (.int (i : Int))) (h2 : Ev tj σ H (.int (j : Int))) : Ev (tOp (rIxL K) (tOp (rIxL K) tr ti) tj) σ H (.int (getM rows i j)) := by
  obtain ⟨a, ha, hA⟩ := h.at q hi
  exact ev_ixL (ev_matRow h hr h1 ha) h2 hA (ix_int (by rw [q.row hi]; exact hj))
/-- rows[i][j] = v -/
theorem s_putM {v : Int} (h : Mat H0 H p as rows) (q : Sq n rows) (hi : i < n) (hj : j < n) (hv : Ev te σ H (.int v)) (hr : Ev tr σ H (.ref p)) (h1 : Ev ti σ H (.int (i : Int))) (h2 : Ev tj σ H (.int (j : Int)))
    (k : ∀ H1, Mat H0 H1 p as (setM rows i j v) → D.nx σ H1) : tAsg te (gSub (tOp (rIxL K) tr ti) tj rSetL) D σ H := by
  obtain ⟨a, ha, hA⟩ := h.at q hi
  exact s_setL hA hv (ev_matRow h hr h1 ha) h2 (by rw [List.length_map, q.row hi]; exact hj) fun H1 e => k _ ((h.grow e).put q hi ha)
theorem q_putM {tz : TS} {v : Int} (h : Mat H0 H p as rows) (q : Sq n rows) (hi : i < n) (hj : j < n) (hv : Ev te σ H (.int v)) (hr : Ev tr σ H (.ref p)) (h1 : Ev ti σ H (.int (i : Int))) (h2 : Ev tj σ H (.int (j : Int)))
    (k : ∀ H1, Mat H0 H1 p as (setM rows i j v) → tz D σ H1) : tSeq (tAsg te (gSub (tOp (rIxL K) tr ti) tj rSetL)) tz D σ H := s_putM (D := { D with nx := tz D }) h q hi hj hv hr h1 h2 k
/-- min(x, y) -/
theorem ev_mn {a b : Int} (ha : Ev tr σ H (.int a)) (hb : Ev te σ H (.int b)) : Ev (tCB (fun xs H Q => ∃ i j, xs = [V.int i, V.int j] ∧ Q (.int (if j < i then j else i)) H) (tCons tr (tCons te tNil))) σ H (.int (mn a b)) := fun H1 e Q q =>
  ha H1 e _ fun H2 e2 => hb H2 (e.trans e2) _ fun H3 e3 => ⟨a, b, rfl, q H3 (e2.trans e3)⟩
end
/-- [[0 if i == j else far for j in range(n)] for i in range(n)] -/
abbrev tRows0 (c f i j : Nat) : TE := tLc (iRng1 (tCons (tVar c) tNil)) (gName i) tYes (tLc (iRng1 (tCons (tVar c) tNil)) (gName j) tYes (tIf (tTest (tOp rEq (tVar i) (tVar j))) (tC (.int 0)) (tVar f)) [j]) [i]
theorem rows0_read {σ : L2.St} {c f i j n : Nat} {far : Int} (hn : n ≤ 1000) (hc : σ[c]? = some (some (.int (n : Int))))
    (w1 : ∀ x, wipe ((wipe σ [i]).set i (some x)) [i] = wipe σ [i]) (w2 : ∀ x y, wipe ((wipe ((wipe σ [i]).set i (some x)) [j]).set j (some y)) [j] = wipe ((wipe σ [i]).set i (some x)) [j])
    (hc2 : ∀ x, ((wipe σ [i]).set i (some x))[c]? = some (some (.int (n : Int)))) (hi : ∀ x y, ((wipe ((wipe σ [i]).set i (some x)) [j]).set j (some y))[i]? = some (some x)) (hj : ∀ x y, ((wipe ((wipe σ [i]).set i (some x)) [j]).set j (some y))[j]? = some (some y))
    (hf : ∀ x y, ((wipe ((wipe σ [i]).set i (some x)) [j]).set j (some y))[f]? = some (some (.int far))) {H : Hp} {Q : VK} (q : ∀ p as H2, Mat H H2 p as (rows0 n far) → Q (.ref p) H2) : tRows0 c f i j σ H Q := by
  refine ⟨_, hc, (n : Int), rfl, by omega, by omega, fun Dl hD => lc_range (lo := 0) (n := (n : Int).toNat) (fun k H' => k ≤ n ∧ ∃ as, Mat H H' Dl as ((rows0 n far).take k)) ⟨Nat.zero_le _, [], Ex.new hD, upd_same, rfl, fun i a h => by simp at h, List.nodup_nil, List.not_mem_nil, hD, fun a h => absurd h List.not_mem_nil⟩ ?_ ?_⟩
  · rintro k H' hk ⟨_, as, M⟩
    have hkn : k < n := by omega
    have e0 : (0 : Int) + (k : Int) = (k : Int) := Int.zero_add _
    rw [e0]
    refine ⟨w1 _, iteT (B := k + 1 ≤ n ∧ ∃ as, Mat H H' Dl as ((rows0 n far).take (k + 1))) ?_⟩
    have key := elP_rng1 (R := fun (b : Int) v _ => v = .int b) (gt := gName j) (tt := tYes) (te := tIf (tTest (tOp rEq (tVar i) (tVar j))) (tC (.int 0)) (tVar f)) (vs := [j]) (σ := (wipe σ [i]).set i (some (.int (k : Int)))) (H := H') Stays.int (n := (n : Int)) (ta := tCons (tVar c) tNil)
      (fun _ => true) (fun m => if k = m then 0 else far) (ea_one (ev_var (hc2 _))) ⟨by omega, by omega⟩ fun m H1 e1 hm => lcTurn_name (w2 _ _) evT_yes fun _ => ev_p (ev_if (b := decide (k = m)) (by
        have z := et_cmp (r := rEq) (H := H1) (ev_var (hi (.int (k : Int)) (.int (m : Int)))) (ev_var (hj (.int (k : Int)) (.int (m : Int)))) (rv_eqI (i := (k : Int)) (j := (m : Int)))
        rw [dec_nat] at z
        exact z) (fun hb => ev_is ev_c (by rw [if_pos (of_decide_eq_true hb)])) (fun hb => ev_is (ev_var (hf _ _)) (by rw [if_neg (of_decide_eq_false hb)])))
    rw [if_pos rfl]
    refine key H' (Ex.refl H') _ fun b H2 nb e2 hb => ?_
    have M2 := M.grow e2
    have hb' := hb.ints
    refine ⟨_, M2.top, ?_, hkn, as ++ [b], ?_⟩
    · rw [List.length_map, M2.len, List.length_take]
      exact sz_lt (by omega)
    · have hbD : b ≠ Dl := (ne_of_none M.top nb).symm
      have hba : b ∉ as := fun hm => by
        obtain ⟨x, hx⟩ := List.mem_iff_getElem?.mp hm
        rw [M.row x b hx] at nb
        cases nb
      have rl : (rows0 n far).length = n := (rows0_sq n far).1
      have lt : ((rows0 n far).take k).length = k := by rw [List.length_take, rl]; omega
      have rk : (rows0 n far)[k]? = some ((List.range n).map fun m => if k = m then 0 else far) := by
        unfold rows0
        rw [List.getElem?_map, List.getElem?_range hkn]
        rfl
      have eg : gives (n : Int).toNat (fun _ => true) (fun m => if k = m then (0 : Int) else far) = (List.range n).map fun m => if k = m then 0 else far := by
        unfold gives
        rw [List.filter_eq_self.mpr fun _ _ => rfl, Int.toNat_natCast]
      refine ⟨Ex.mut M2.ex M.fp, by rw [upd_same, List.map_append]; rfl, ?_, fun x a hx => ?_, List.nodup_append.mpr ⟨M.nd, by simp, fun a ha z hz => ?_⟩, fun hm => ?_, M.fp, fun a ha => ?_⟩
      · rw [List.length_append, M.len, lt, List.length_take, rl, List.length_singleton]
        omega
      · have hx' : x < as.length + 1 := by
          have := (List.getElem?_eq_some_iff.mp hx).1
          rwa [List.length_append, List.length_singleton] at this
        have la : as.length = k := by rw [M.len, lt]
        by_cases e : x = k
        · subst e
          rw [← la, List.getElem?_append_right (Nat.le_refl _), Nat.sub_self] at hx
          have ea : b = a := Option.some.inj hx
          subst ea
          rw [upd_ne hbD, hb', eg, List.getD_eq_getElem?_getD, List.getElem?_take, if_pos (Nat.lt_succ_self _), rk]
          rfl
        · rw [List.getElem?_append_left (by omega)] at hx
          have hane : a ≠ Dl := fun e2 => M.np (e2 ▸ List.mem_of_getElem? hx)
          rw [upd_ne hane, M2.row x a hx, List.getD_eq_getElem?_getD, List.getD_eq_getElem?_getD, List.getElem?_take, List.getElem?_take, if_pos (by omega), if_pos (by omega)]
      · rw [List.mem_singleton.mp hz]
        exact fun e => hba (e ▸ ha)
      · rcases List.mem_append.mp hm with h | h
        · exact M.np h
        · exact hbD (List.mem_singleton.mp h).symm
      · rcases List.mem_append.mp ha with h | h
        · exact M.fa a h
        · rw [List.mem_singleton.mp h]
          exact fresh_back M.ex nb
  · rintro H' ⟨_, as, M⟩
    have e : (n : Int).toNat = n := Int.toNat_natCast n
    rw [e, List.take_of_length_le (by rw [(rows0_sq n far).1]; exact Nat.le_refl _)] at M
    exact q Dl as H' M

theorem Mat.back {H0 H1 H : Hp} {p : Addr} {as : List Addr} {rows : List (List Int)} (e : Ex H0 H1) (h : Mat H1 H p as rows) : Mat H0 H p as rows :=
  ⟨e.trans h.ex, h.top, h.len, h.row, h.nd, h.np, fresh_back e h.fp, fun a ha => fresh_back e (h.fa a ha)⟩
theorem evP_rows0 {σ : L2.St} {c f i j n : Nat} {far : Int} (hn : n ≤ 1000) (hc : σ[c]? = some (some (.int (n : Int))))
    (w1 : ∀ x, wipe ((wipe σ [i]).set i (some x)) [i] = wipe σ [i]) (w2 : ∀ x y, wipe ((wipe ((wipe σ [i]).set i (some x)) [j]).set j (some y)) [j] = wipe ((wipe σ [i]).set i (some x)) [j])
    (hc2 : ∀ x, ((wipe σ [i]).set i (some x))[c]? = some (some (.int (n : Int)))) (hi : ∀ x y, ((wipe ((wipe σ [i]).set i (some x)) [j]).set j (some y))[i]? = some (some x)) (hj : ∀ x y, ((wipe ((wipe σ [i]).set i (some x)) [j]).set j (some y))[j]? = some (some y))
    (hf : ∀ x y, ((wipe ((wipe σ [i]).set i (some x)) [j]).set j (some y))[f]? = some (some (.int far))) {H : Hp} : EvP (tRows0 c f i j) σ H (fun v H2 => ∃ p as, v = .ref p ∧ Mat H H2 p as (rows0 n far)) := fun H1 e Q q =>
  rows0_read hn hc w1 w2 hc2 hi hj hf fun p as H2 M => q _ H2 M.ex ⟨p, as, rfl, M.back e⟩
theorem range_snoc {α : Type} (f : α → Nat → α) (s : α) (i : Nat) : (List.range (i + 1)).foldl f s = f ((List.range i).foldl f s) i := by
  rw [List.range_succ, List.foldl_append]
  rfl
theorem take_snoc {α β : Type} (f : α → β → α) (s : α) {l : List β} {i : Nat} {b : β} (h : l[i]? = some b) : (l.take (i + 1)).foldl f s = f ((l.take i).foldl f s) b := by
  rw [List.take_add_one, h, List.foldl_append]
  rfl

/-- x, y = a, b -/
theorem q_asgPair {K : PySem.W.Frag} {σ : L2.St} {H : Hp} {ta tb : TE} {x y : V} {i j : Nat} {tz : TS} {D : Ends} (ha : Ev ta σ H x) (hb : Ev tb σ H y) (k : ∀ H1, Ex H H1 → tz D ((σ.set i (some x)).set j (some y)) H1) :
    tSeq (tAsg (tTup (tCons ta (tCons tb tNil))) (gTup K 2 (gCons (gName i) (gCons (gName j) gNil)))) tz D σ H := by
  show tTup (tCons ta (tCons tb tNil)) σ H fun v H1 => gTup K 2 (gCons (gName i) (gCons (gName j) gNil)) v σ H1 (tz D)
  exact eu_tup (ea_cons ha (ea_one hb)) (show (2 : Nat) ≤ 100000 by decide) H (Ex.refl H) _ fun p H1 _ e1 hp => g_pair hp (k H1 e1)
end NH
namespace NH
open PySem L2 Evl
section
variable {P : Program} {w : World} {K : PySem.W.Frag} {mg : Str → Option Value} {base : Heap} {f : Addr} {fd : FuncData}
def spTable : Sp := fun vs H Q _ => ∃ (p pw pr : Addr) (ws : List Int) (rs : List Road), vs = [.ref p] ∧ WebAt H p pw pr ws rs ∧ ws.length ≤ 1000 ∧ rs.length ≤ 1000 ∧ (∀ r ∈ rs, r.1 < ws.length ∧ r.2.1 < ws.length) ∧ ∀ q H', H q = none → Ex H H' → RowsAt H' q (table ws.length rs) → Q (.ref q) H'
theorem scTable : FnScope ["web", "count", "far", "rows", "a", "b", "length", "k", "i", "j"] ["web"] (defScope s_table_of) := ⟨rfl, rfl, rfl, by decide +kernel, rfl, by decide +kernel, by decide +kernel⟩
theorem ok_table (T : Txt K mg) (F : Fun K "table_of" "table_of" s_table_of f fd) : FnOk P w K mg base CX0 1 f fd ["web"] spTable := by
  refine F.ok scTable (fun vs H Q E h => ?_) (fun cdv A outer s H vs Q E hr h => ?_)
  · obtain ⟨_, _, _, _, _, rfl, _⟩ := h
    rfl
  obtain ⟨p, pw, pr, ws, rs, rfl, hW, hn, hrl, hb, q⟩ := h
  refine ⟨_, pss_cons (ps_set (i := 1) scTable.nd rfl (Or.inr rfl) (pe_callB call_len_seq (by rfl) T.b_len PySem.boot_len (pa_cons (pe_ix ix_tup (pv 0) pe_int (fun _ _ => rfl)) pa_nil)))
    (pss_cons (ps_set (i := 2) scTable.nd rfl (Or.inr rfl) (pe_op op_add pe_int (pe_callB (cr_sum rfl) (by rfl) T.b_sum (by decide +kernel) (pa_cons
      (pe_lc (own := [("a", 4), ("b", 5), ("length", 6)]) (tt := tYes) (g := gTup K 3 (gCons (gName 4) (gCons (gName 5) (gCons (gName 6) gNil)))) (te := tVar 6) rfl scTable.nd (pi_tup (pe_ix ix_tup (pv 0) pe_int (fun _ _ => rfl))) (blkOk_by (by kernel_rfl))
        (fun _ _ _ _ _ => pg_tup rfl (pgs_cons (pg_name (i := 4) scTable.nd rfl (Or.inl rfl)) (pgs_cons (pg_name (i := 5) scTable.nd rfl (Or.inl rfl)) (pgs_cons (pg_name (i := 6) scTable.nd rfl (Or.inl rfl)) pgs_nil)))) (fun _ _ _ _ _ => pts_nil) (fun _ _ _ _ _ => pv 6)) pa_nil))))
    (pss_cons (ps_setLc (i := 3) (own := [("i", 8)]) (tt := tYes) (g := gName 8) (te := tLc (iRng1 (tCons (tVar 1) tNil)) (gName 9) tYes (tIf (tTest (tOp rEq (tVar 8) (tVar 9))) (tC (.int 0)) (tVar 2)) [9]) rfl scTable.nd rfl rfl (sw_true rfl rfl rfl (by decide +kernel))
        (pi_range1 (by rfl) T.b_range (pa_cons (pv 1) pa_nil)) (blkOk_by (by kernel_rfl)) (fun _ _ _ _ _ => pg_name (i := 8) scTable.nd rfl (Or.inr rfl)) (fun _ _ _ _ _ => pts_nil)
        (fun _ _ _ _ _ => pe_lc (own := [("j", 9)]) (tt := tYes) (g := gName 9) (te := tIf (tTest (tOp rEq (tVar 8) (tVar 9))) (tC (.int 0)) (tVar 2)) rfl scTable.nd
          (pi_range1 (by rfl) T.b_range (pa_cons (pv 1) pa_nil)) (blkOk_by (by kernel_rfl)) (fun _ _ _ _ _ => pg_name (i := 9) scTable.nd rfl (Or.inl rfl)) (fun _ _ _ _ _ => pts_nil)
          (fun _ _ _ _ _ => pe_ifExp (pt_cmpR op_eq (pv 8) (pv 9) (nomark _)) pe_int (pv 2))))
    (pss_cons (ps_for PassesOwn.never rfl (pi_tup (pe_ix ix_tup (pv 0) pe_int (fun _ _ => rfl))) (pg_tup rfl (pgs_cons (pg_name (i := 4) scTable.nd rfl (Or.inl rfl)) (pgs_cons (pg_name (i := 5) scTable.nd rfl (Or.inl rfl)) (pgs_cons (pg_name (i := 6) scTable.nd rfl (Or.inl rfl)) pgs_nil))))
      (pss_cons (ps_asg (pv 6) (pg_sub (pe_ix ix_list (pv 3) (pv 4) (fun _ _ => rfl)) (pv 5) set_list))
      (pss_one (ps_asg (pv 6) (pg_sub (pe_ix ix_list (pv 3) (pv 5) (fun _ _ => rfl)) (pv 4) set_list)))))
    (pss_cons (ps_for PassesOwn.never rfl (pi_range1 (by rfl) T.b_range (pa_cons (pv 1) pa_nil)) (pg_name (i := 7) scTable.nd rfl (Or.inl rfl))
      (pss_one (ps_for PassesOwn.never rfl (pi_range1 (by rfl) T.b_range (pa_cons (pv 1) pa_nil)) (pg_name (i := 8) scTable.nd rfl (Or.inl rfl))
        (pss_one (ps_for PassesOwn.never rfl (pi_range1 (by rfl) T.b_range (pa_cons (pv 1) pa_nil)) (pg_name (i := 9) scTable.nd rfl (Or.inl rfl))
          (pss_one (ps_asg (pe_callB (call_min2 rfl) (by rfl) T.b_min (by decide +kernel) (pa_cons (pe_ix ix_list (pe_ix ix_list (pv 3) (pv 8) (fun _ _ => rfl)) (pv 9) (fun _ _ => rfl))
            (pa_cons (pe_op op_add (pe_ix ix_list (pe_ix ix_list (pv 3) (pv 8) (fun _ _ => rfl)) (pv 7) (fun _ _ => rfl)) (pe_ix ix_list (pe_ix ix_list (pv 3) (pv 7) (fun _ _ => rfl)) (pv 9) (fun _ _ => rfl))) pa_nil)))
            (pg_sub (pe_ix ix_list (pv 3) (pv 8) (fun _ _ => rfl)) (pv 9) set_list))))))))
    (pss_one (ps_ret (pv 3))))))), ?_⟩
  have lw : ((ws.map V.int).length : Int) = (ws.length : Int) := by rw [List.length_map]
  refine q_asg (ev_is (ev_lenT (ev_ixT (i := 0) (ev_var rfl) ev_c hW.web rfl) hW.wts) (by rw [lw])) fun H1 e1 => ?_
  have hW1 := hW.mono e1
  obtain ⟨ys, hys, rel⟩ := hW1.rds
  have key := elP_tup (K := K) (R := fun (b : Int) v _ => v = .int b) (gt := gTup K 3 (gCons (gName 4) (gCons (gName 5) (gCons (gName 6) gNil)))) (tt := tYes) (te := tVar 6) (vs := [4, 5, 6]) (σ := [some (.ref p), some (.int (ws.length : Int)), none, none, none, none, none, none, none, none]) (H := H1) Stays.int (tl := tOp (rIxT K) (tVar 0) (tC (.int 1)))
    stays_road.mono (as := rs) (fun _ => true) (fun r : Road => r.2.2) (evP_tup stays_road.mono (ev_ixT (i := 1) (ev_var rfl) ev_c hW1.web rfl) hys rel) (by omega) fun r v H2 e2 hr hv => by
      obtain ⟨a, rfl, ha⟩ := hv
      exact ⟨_, fun H3 Q' e3 q' => g_road (e3 _ _ ha) q', rfl, evT_yes, fun _ => ev_p (ev_var rfl)⟩
  have key2 := ev_sumN (K := K) (key.imp fun p H' _ h => h.ints)
  have es : ((rs.filter fun _ => true).map fun r : Road => r.2.2).sum = sumLen rs := by
    rw [List.filter_eq_self.mpr fun _ _ => rfl]
    rfl
  rw [es] at key2
  refine q_asg (ev_op ev_c key2 (rv_I0 (g := fun i j => .int (i + j)))) fun H2 e2 => ?_
  have hys2 := e2 _ _ hys
  refine q_asgP (evP_rows0 (n := ws.length) (far := 1 + sumLen rs) hn rfl (fun _ => rfl) (fun _ _ => rfl) (fun _ => rfl) (fun _ _ => rfl) (fun _ _ => rfl) (fun _ _ => rfl)) fun v H3 e3 hv => ?_
  obtain ⟨pR, as, rfl, M3⟩ := hv
  have rel2 := rel.mono stays_road.mono e2
  refine q_forT (K := K) (ev_ixT (i := 1) (ev_var rfl) ev_c (e3 _ _ (e2 _ _ hW1.web)) rfl) (st_of (e3 _ _ hys2)) (fun i σ H' => ∃ u4 u5 u6, σ = [some (.ref p), some (.int (ws.length : Int)), some (.int (1 + sumLen rs)), some (.ref pR), u4, u5, u6, none, none, none] ∧ Mat H2 H' pR as ((rs.take i).foldl putRoad (rows0 ws.length (1 + sumLen rs))) ∧ Sq ws.length ((rs.take i).foldl putRoad (rows0 ws.length (1 + sumLen rs))))
    (fun H4 e4 => ⟨_, _, _, rfl, M3.grow e4, rows0_sq _ _⟩) (fun i σ H' _ ⟨_, _, _, _, M, _⟩ => st_of (M.ex _ _ hys2)) ?_ ?_
  · rintro i x σ H4 hx ⟨u4, u5, u6, rfl, M, S⟩
    obtain ⟨r, hr', a, rfl, ha0⟩ := rel2.get hx
    obtain ⟨b1, b2⟩ := hb r (List.mem_of_getElem? hr')
    refine g_road (M.ex _ _ ha0) ?_
    refine q_putM M S b1 b2 (ev_var rfl) (ev_var rfl) (ev_var rfl) (ev_var rfl) fun H5 M5 => ?_
    have S5 := S.set b1 (j := r.2.1) r.2.2
    refine s_putM M5 S5 b2 b1 (ev_var rfl) (ev_var rfl) (ev_var rfl) (ev_var rfl) fun H6 M6 => ?_
    have S6 := S5.set b2 (j := r.1) r.2.2
    refine ⟨_, _, _, rfl, ?_, ?_⟩
    · rw [take_snoc _ _ hr']
      exact M6
    · rw [take_snoc _ _ hr']
      exact S6
  · rintro σ H4 ⟨u4, u5, u6, rfl, M, S⟩
    rw [← rel.length, List.take_of_length_le (Nat.le_refl _)] at M S
    generalize hR0 : rs.foldl putRoad (rows0 ws.length (1 + sumLen rs)) = R0 at M S
    have hn' : (0 : Int) ≤ (ws.length : Int) ∧ (ws.length : Int) ≤ 100000 := by omega
    have tn : ((ws.length : Int)).toNat = ws.length := Int.toNat_natCast _
    refine q_forR1 (ea_one (ev_var rfl)) hn' (fun k σ H' => ∃ u4 u5 u6 u7 u8 u9, σ = [some (.ref p), some (.int (ws.length : Int)), some (.int (1 + sumLen rs)), some (.ref pR), u4, u5, u6, u7, u8, u9] ∧ Mat H2 H' pR as ((List.range k).foldl (fwK ws.length) R0) ∧ Sq ws.length ((List.range k).foldl (fwK ws.length) R0))
      (fun H5 e5 => ⟨_, _, _, _, _, _, rfl, M.grow e5, S⟩) ?_ ?_
    · rintro k σ H5 hk ⟨u4, u5, u6, u7, u8, u9, rfl, M5, S5⟩
      have hk' : k < ws.length := by omega
      generalize hRk : (List.range k).foldl (fwK ws.length) R0 = Rk at M5 S5
      refine s_forR1 (ea_one (ev_var rfl)) hn' (fun i σ H' => ∃ u4 u5 u6 u8 u9, σ = [some (.ref p), some (.int (ws.length : Int)), some (.int (1 + sumLen rs)), some (.ref pR), u4, u5, u6, some (.int (k : Int)), u8, u9] ∧ Mat H2 H' pR as ((List.range i).foldl (fwI ws.length k) Rk) ∧ Sq ws.length ((List.range i).foldl (fwI ws.length k) Rk))
        (fun H6 e6 => ⟨_, _, _, _, _, rfl, M5.grow e6, S5⟩) ?_ ?_
      · rintro i σ H6 hi ⟨u4, u5, u6, u8, u9, rfl, M6, S6⟩
        have hi' : i < ws.length := by omega
        generalize hRi : (List.range i).foldl (fwI ws.length k) Rk = Ri at M6 S6
        refine s_forR1 (ea_one (ev_var rfl)) hn' (fun j σ H' => ∃ u4 u5 u6 u9, σ = [some (.ref p), some (.int (ws.length : Int)), some (.int (1 + sumLen rs)), some (.ref pR), u4, u5, u6, some (.int (k : Int)), some (.int (i : Int)), u9] ∧ Mat H2 H' pR as ((List.range j).foldl (fwJ k i) Ri) ∧ Sq ws.length ((List.range j).foldl (fwJ k i) Ri))
          (fun H7 e7 => ⟨_, _, _, _, rfl, M6.grow e7, S6⟩) ?_ ?_
        · rintro j σ H7 hj ⟨u4, u5, u6, u9, rfl, M7, S7⟩
          have hj' : j < ws.length := by omega
          generalize hRj : (List.range j).foldl (fwJ k i) Ri = Rj at M7 S7
          refine s_putM M7 S7 hi' hj' (ev_mn (ev_mat M7 S7 hi' hj' (ev_var rfl) (ev_var rfl) (ev_var rfl)) (ev_op (ev_mat M7 S7 hi' hk' (ev_var rfl) (ev_var rfl) (ev_var rfl)) (ev_mat M7 S7 hk' hj' (ev_var rfl) (ev_var rfl) (ev_var rfl)) (rv_I0 (g := fun i j => .int (i + j))))) (ev_var rfl) (ev_var rfl) (ev_var rfl) fun H8 M8 => ?_
          refine ⟨_, _, _, _, rfl, ?_, ?_⟩
          · rw [range_snoc, hRj]
            exact M8
          · rw [range_snoc, hRj]
            exact S7.set hi' _
        · rintro σ H7 ⟨u4, u5, u6, u9, rfl, M7, S7⟩
          rw [tn] at M7 S7
          refine ⟨_, _, _, _, _, rfl, ?_, ?_⟩
          · rw [range_snoc, hRi]
            exact M7
          · rw [range_snoc, hRi]
            exact S7
      · rintro σ H6 ⟨u4, u5, u6, u8, u9, rfl, M6, S6⟩
        rw [tn] at M6 S6
        refine ⟨_, _, _, _, _, _, rfl, ?_, ?_⟩
        · rw [range_snoc, hRk]
          exact M6
        · rw [range_snoc, hRk]
          exact S6
    · rintro σ H5 ⟨u4, u5, u6, u7, u8, u9, rfl, M5, S5⟩
      rw [tn] at M5 S5
      refine s_ret (ev_var rfl) fun H6 e6 => q pR H6 (fresh_back (e1.trans e2) M5.fp) ((e1.trans e2).trans (M5.ex.trans e6)) ?_
      unfold table
      rw [hR0]
      exact (M5.grow e6).rows
end
end NH
namespace NH
open PySem L2 Evl
section
variable {P : Program} {w : World} {K : PySem.W.Frag} {mg : Str → Option Value} {base : Heap} {f : Addr} {fd : FuncData}
def spRows : Sp := fun vs H Q _ => ∃ (p pw pr : Addr) (ws : List Int) (rs : List Road), vs = [.ref p] ∧ WebAt H p pw pr ws rs ∧ ws.length ≤ 1000 ∧ rs.length ≤ 1000 ∧ (∀ r ∈ rs, r.1 < ws.length ∧ r.2.1 < ws.length) ∧ ∀ q H', H q = none → Ex H H' → RowsAt H' q (lawRows ws.length rs) → Q (.ref q) H'
theorem scRows : FnScope ["_law_web_here", "_law_count", "_law_far", "_law_i", "_law_rows_here", "_law_turn", "_law_a", "_law_b", "_law_length", "_law_j"] ["_law_web_here"] (defScope s_law_rows) := ⟨rfl, rfl, rfl, by decide +kernel, rfl, by decide +kernel, by decide +kernel⟩
theorem ok_rows (T : Txt K mg) (F : Fun K "_law_rows" "_law_rows" s_law_rows f fd) : FnOk P w K mg base CX0 1 f fd ["_law_web_here"] spRows := by
  refine F.ok scRows (fun vs H Q E h => ?_) (fun cdv A outer s H vs Q E hr h => ?_)
  · obtain ⟨_, _, _, _, _, rfl, _⟩ := h
    rfl
  obtain ⟨p, pw, pr, ws, rs, rfl, hW, hn, hrl, hb, q⟩ := h
  refine ⟨_, pss_cons (ps_asg (pe_tup (pa_cons (pe_callB call_len_seq (by rfl) T.b_len PySem.boot_len (pa_cons (pe_ix ix_tup (pv 0) pe_int (fun _ _ => rfl)) pa_nil)) (pa_cons (pe_op op_pow pe_int pe_int) pa_nil)))
      (pg_tup rfl (pgs_cons (pg_name (i := 1) scRows.nd rfl (Or.inr rfl)) (pgs_cons (pg_name (i := 2) scRows.nd rfl (Or.inr rfl)) pgs_nil))))
    (pss_cons (ps_setLc (i := 4) (own := [("_law_i", 3)]) (tt := tYes) (g := gName 3) (te := tLc (iRng1 (tCons (tVar 1) tNil)) (gName 9) tYes (tIf (tTest (tOp rEq (tVar 3) (tVar 9))) (tC (.int 0)) (tVar 2)) [9]) rfl scRows.nd rfl rfl (sw_true rfl rfl rfl (by decide +kernel))
        (pi_range1 (by rfl) T.b_range (pa_cons (pv 1) pa_nil)) (blkOk_by (by kernel_rfl)) (fun _ _ _ _ _ => pg_name (i := 3) scRows.nd rfl (Or.inr rfl)) (fun _ _ _ _ _ => pts_nil)
        (fun _ _ _ _ _ => pe_lc (own := [("_law_j", 9)]) (tt := tYes) (g := gName 9) (te := tIf (tTest (tOp rEq (tVar 3) (tVar 9))) (tC (.int 0)) (tVar 2)) rfl scRows.nd
          (pi_range1 (by rfl) T.b_range (pa_cons (pv 1) pa_nil)) (blkOk_by (by kernel_rfl)) (fun _ _ _ _ _ => pg_name (i := 9) scRows.nd rfl (Or.inl rfl)) (fun _ _ _ _ _ => pts_nil)
          (fun _ _ _ _ _ => pe_ifExp (pt_cmpR op_eq (pv 3) (pv 9) (nomark _)) pe_int (pv 2))))
    (pss_cons (ps_for PassesOwn.never rfl (pi_range1 (by rfl) T.b_range (pa_cons (pv 1) pa_nil)) (pg_name (i := 5) scRows.nd rfl (Or.inl rfl))
      (pss_one (ps_for PassesOwn.never rfl (pi_tup (pe_ix ix_tup (pv 0) pe_int (fun _ _ => rfl))) (pg_tup rfl (pgs_cons (pg_name (i := 6) scRows.nd rfl (Or.inl rfl)) (pgs_cons (pg_name (i := 7) scRows.nd rfl (Or.inl rfl)) (pgs_cons (pg_name (i := 8) scRows.nd rfl (Or.inl rfl)) pgs_nil))))
        (pss_one (ps_for PassesOwn.never rfl (pi_range1 (by rfl) T.b_range (pa_cons (pv 1) pa_nil)) (pg_name (i := 3) scRows.nd rfl (Or.inl rfl))
          (pss_cons (ps_asg (pe_callB (call_min2 rfl) (by rfl) T.b_min (by decide +kernel) (pa_cons (pe_ix ix_list (pe_ix ix_list (pv 4) (pv 3) (fun _ _ => rfl)) (pv 7) (fun _ _ => rfl))
            (pa_cons (pe_op op_add (pe_ix ix_list (pe_ix ix_list (pv 4) (pv 3) (fun _ _ => rfl)) (pv 6) (fun _ _ => rfl)) (pv 8)) pa_nil)))
            (pg_sub (pe_ix ix_list (pv 4) (pv 3) (fun _ _ => rfl)) (pv 7) set_list))
          (pss_one (ps_asg (pe_callB (call_min2 rfl) (by rfl) T.b_min (by decide +kernel) (pa_cons (pe_ix ix_list (pe_ix ix_list (pv 4) (pv 3) (fun _ _ => rfl)) (pv 6) (fun _ _ => rfl))
            (pa_cons (pe_op op_add (pe_ix ix_list (pe_ix ix_list (pv 4) (pv 3) (fun _ _ => rfl)) (pv 7) (fun _ _ => rfl)) (pv 8)) pa_nil)))
            (pg_sub (pe_ix ix_list (pv 4) (pv 3) (fun _ _ => rfl)) (pv 6) set_list)))))))))
    (pss_one (ps_ret (pv 4))))), ?_⟩
  have lw : ((ws.map V.int).length : Int) = (ws.length : Int) := by rw [List.length_map]
  refine q_asgPair (ev_is (ev_lenT (ev_ixT (i := 0) (ev_var rfl) ev_c hW.web rfl) hW.wts) (by rw [lw])) (ev_is (w := .int 1000000) (ev_op ev_c ev_c (rv_I ⟨by decide, by decide, by decide⟩)) (by decide +kernel)) fun H2 e1 => ?_
  have hW1 := hW.mono e1
  obtain ⟨ys, hys2, rel2⟩ := hW1.rds
  refine q_asgP (evP_rows0 (n := ws.length) (far := 1000000) hn rfl (fun _ => rfl) (fun _ _ => rfl) (fun _ => rfl) (fun _ _ => rfl) (fun _ _ => rfl) (fun _ _ => rfl)) fun v H3 e3 hv => ?_
  obtain ⟨pR, as, rfl, M3⟩ := hv
  have hn' : (0 : Int) ≤ (ws.length : Int) ∧ (ws.length : Int) ≤ 100000 := by omega
  have tn : ((ws.length : Int)).toNat = ws.length := Int.toNat_natCast _
  refine q_forR1 (ea_one (ev_var rfl)) hn' (fun k σ H' => ∃ u3 u5 u6 u7 u8, σ = [some (.ref p), some (.int (ws.length : Int)), some (.int 1000000), u3, some (.ref pR), u5, u6, u7, u8, none] ∧ Mat H2 H' pR as ((List.range k).foldl (bfT ws.length rs) (rows0 ws.length 1000000)) ∧ Sq ws.length ((List.range k).foldl (bfT ws.length rs) (rows0 ws.length 1000000)))
      (fun H5 e5 => ⟨_, _, _, _, _, rfl, M3.grow e5, rows0_sq _ _⟩) ?_ ?_
  · rintro k σ H5 hk ⟨u3, u5, u6, u7, u8, rfl, M5, S5⟩
    generalize hRk : (List.range k).foldl (bfT ws.length rs) (rows0 ws.length 1000000) = Rk at M5 S5
    refine s_forT (K := K) (ev_ixT (i := 1) (ev_var rfl) ev_c (M5.ex _ _ hW1.web) rfl) (st_of (M5.ex _ _ hys2)) (fun i σ H' => ∃ u3 u6 u7 u8, σ = [some (.ref p), some (.int (ws.length : Int)), some (.int 1000000), u3, some (.ref pR), some (.int (k : Int)), u6, u7, u8, none] ∧ Mat H2 H' pR as ((rs.take i).foldl (bfR ws.length) Rk) ∧ Sq ws.length ((rs.take i).foldl (bfR ws.length) Rk))
      (fun H4 e4 => ⟨_, _, _, _, rfl, M5.grow e4, S5⟩) (fun i σ H' _ ⟨_, _, _, _, _, M, _⟩ => st_of (M.ex _ _ hys2)) ?_ ?_
    · rintro i x σ H6 hx ⟨u3, u6, u7, u8, rfl, M6, S6⟩
      obtain ⟨r, hr', a, rfl, ha0⟩ := rel2.get hx
      obtain ⟨b1, b2⟩ := hb r (List.mem_of_getElem? hr')
      generalize hRi : (rs.take i).foldl (bfR ws.length) Rk = Ri at M6 S6
      refine g_road (M6.ex _ _ ha0) ?_
      refine s_forR1 (ea_one (ev_var rfl)) hn' (fun j σ H' => ∃ u3, σ = [some (.ref p), some (.int (ws.length : Int)), some (.int 1000000), u3, some (.ref pR), some (.int (k : Int)), some (nV r.1), some (nV r.2.1), some (.int r.2.2), none] ∧ Mat H2 H' pR as ((List.range j).foldl (bfI r) Ri) ∧ Sq ws.length ((List.range j).foldl (bfI r) Ri))
        (fun H7 e7 => ⟨_, rfl, M6.grow e7, S6⟩) ?_ ?_
      · rintro j σ H7 hj ⟨u3, rfl, M7, S7⟩
        have hj' : j < ws.length := by omega
        generalize hRj : (List.range j).foldl (bfI r) Ri = Rj at M7 S7
        refine q_putM M7 S7 hj' b2 (ev_mn (ev_mat M7 S7 hj' b2 (ev_var rfl) (ev_var rfl) (ev_var rfl)) (ev_op (ev_mat M7 S7 hj' b1 (ev_var rfl) (ev_var rfl) (ev_var rfl)) (ev_var rfl) (rv_I0 (g := fun i j => .int (i + j))))) (ev_var rfl) (ev_var rfl) (ev_var rfl) fun H8 M8 => ?_
        have S8 := S7.set hj' (j := r.2.1) (mn (getM Rj j r.2.1) (getM Rj j r.1 + r.2.2))
        refine s_putM M8 S8 hj' b1 (ev_mn (ev_mat M8 S8 hj' b1 (ev_var rfl) (ev_var rfl) (ev_var rfl)) (ev_op (ev_mat M8 S8 hj' b2 (ev_var rfl) (ev_var rfl) (ev_var rfl)) (ev_var rfl) (rv_I0 (g := fun i j => .int (i + j))))) (ev_var rfl) (ev_var rfl) (ev_var rfl) fun H9 M9 => ?_
        refine ⟨_, rfl, ?_, ?_⟩
        · rw [range_snoc, hRj]
          exact M9
        · rw [range_snoc, hRj]
          exact S8.set hj' _
      · rintro σ H7 ⟨u3, rfl, M7, S7⟩
        rw [tn] at M7 S7
        refine ⟨_, _, _, _, rfl, ?_, ?_⟩
        · rw [take_snoc _ _ hr', hRi]
          exact M7
        · rw [take_snoc _ _ hr', hRi]
          exact S7
    · rintro σ H6 ⟨u3, u6, u7, u8, rfl, M6, S6⟩
      rw [← rel2.length, List.take_of_length_le (Nat.le_refl _)] at M6 S6
      refine ⟨_, _, _, _, _, rfl, ?_, ?_⟩
      · rw [range_snoc, hRk]
        exact M6
      · rw [range_snoc, hRk]
        exact S6
  · rintro σ H5 ⟨u3, u5, u6, u7, u8, rfl, M5, S5⟩
    rw [tn] at M5 S5
    refine s_ret (ev_var rfl) fun H6 e6 => q pR H6 (fresh_back e1 M5.fp) (e1.trans (M5.ex.trans e6)) ?_
    unfold lawRows
    exact (M5.grow e6).rows
end
end NH
namespace NH
open PySem L2 Evl
/-! ### members of a number -/
def mem (N n : Nat) : List Nat := (List.range n).filter fun k => N.testBit k
theorem bits_of (f : Nat → Bool) : ∀ n, ∃ N, N < 2 ^ n ∧ ∀ k, k < n → N.testBit k = f k
  | 0 => ⟨0, by decide, fun k h => absurd h (by omega)⟩
  | n + 1 => by
    obtain ⟨N, h1, h2⟩ := bits_of f n
    have hn : N.testBit n = false := Nat.testBit_lt_two_pow h1
    cases hf : f n with
    | true =>
      refine ⟨2 ^ n + N, by rw [Nat.pow_succ]; omega, fun k hk => ?_⟩
      by_cases e : k = n
      · subst e
        rw [Nat.testBit_two_pow_add_eq, hn, hf]
        rfl
      · rw [Nat.testBit_two_pow_add_gt (by omega), h2 k (by omega)]
    | false =>
      refine ⟨N, by rw [Nat.pow_succ]; omega, fun k hk => ?_⟩
      by_cases e : k = n
      · subst e
        rw [hn, hf]
      · exact h2 k (by omega)
theorem range_up (n : Nat) : (List.range n).Pairwise (· < ·) := List.pairwise_lt_range
theorem zN_mem' {hs : List Nat} {k : Int} : k ∈ zN hs ↔ 0 ≤ k ∧ k.toNat ∈ hs := by
  rw [mem_zN]
  constructor
  · rintro ⟨x, h, rfl⟩
    exact ⟨by omega, by rw [Int.toNat_natCast]; exact h⟩
  · rintro ⟨h1, h2⟩
    exact ⟨_, h2, by omega⟩
theorem up_ext {a b : List Nat} (ha : a.Pairwise (· < ·)) (hb : b.Pairwise (· < ·)) (h : ∀ x, x ∈ a ↔ x ∈ b) : a = b :=
  zN_inj (rising_same (zN_rising ha) (zN_rising hb) fun x => by rw [zN_mem', zN_mem', h])
theorem mem_ok {N n : Nat} (h1 : 1 ≤ N) (h2 : N < 2 ^ n) : HsOk n (mem N n) := by
  refine ⟨fun e => ?_, (range_up n).filter _, fun x hx => List.mem_range.mp (List.mem_filter.mp hx).1⟩
  have z : ∀ k, N.testBit k = false := fun k => by
    by_cases hk : k < n
    · have := List.filter_eq_nil_iff.mp e k (List.mem_range.mpr hk)
      simpa using this
    · exact Nat.testBit_lt_two_pow (Nat.lt_of_lt_of_le h2 (Nat.pow_le_pow_right (by decide) (by omega)))
  have : N = 0 := Nat.eq_of_testBit_eq fun k => by rw [z k, Nat.zero_testBit]
  omega
theorem mem_all {n : Nat} {h : List Nat} (ok : HsOk n h) : ∃ N, 1 ≤ N ∧ N < 2 ^ n ∧ h = mem N n := by
  obtain ⟨N, h1, h2⟩ := bits_of (fun k => decide (k ∈ h)) n
  have e : h = mem N n := up_ext ok.up ((range_up n).filter _) fun x => by
    unfold mem
    rw [List.mem_filter, List.mem_range]
    constructor
    · intro hx
      exact ⟨ok.bd x hx, by rw [h2 x (ok.bd x hx)]; exact decide_eq_true hx⟩
    · rintro ⟨q1, q2⟩
      rw [h2 x q1] at q2
      exact of_decide_eq_true q2
  refine ⟨N, ?_, h1, e⟩
  rcases Nat.eq_zero_or_pos N with z | z
  · subst z
    refine absurd ?_ ok.ne
    rw [e]
    unfold mem
    exact List.filter_eq_nil_iff.mpr fun k _ => by rw [Nat.zero_testBit]; decide
  · exact z
/-! ### an arrangement of things told -/
theorem rel_perm {β : Type} {R : β → V → Hp → Prop} {H : Hp} {ys xs : List V} (p : ys.Perm xs) : ∀ {bs : List β}, Rel R H bs xs → ∃ cs, cs.Perm bs ∧ Rel R H cs ys := by
  induction p with
  | nil => intro bs r; exact ⟨bs, List.Perm.refl _, r⟩
  | cons x _ ih =>
    intro bs r
    cases r with
    | cons h t =>
      obtain ⟨cs, p1, p2⟩ := ih t
      exact ⟨_, p1.cons _, .cons h p2⟩
  | swap x y l =>
    intro bs r
    cases r with
    | cons h t =>
      cases t with
      | cons h2 t2 => exact ⟨_, List.Perm.swap _ _ _, .cons h2 (.cons h t2)⟩
  | trans _ _ ih1 ih2 =>
    intro bs r
    obtain ⟨cs, p1, p2⟩ := ih2 r
    obtain ⟨ds, p3, p4⟩ := ih1 p2
    exact ⟨ds, p3.trans p1, p4⟩
section
variable {P : Program} {w : World} {K : PySem.W.Frag} {mg : Str → Option Value} {base : Heap} {f : Addr} {fd : FuncData}
def spMembers : Sp := fun vs H Q _ => ∃ (N n : Nat), vs = [nV N, nV n] ∧ n ≤ 1000 ∧ ∀ p H', H p = none → Ex H H' → H' p = some (.tup ((mem N n).map nV)) → Q (.ref p) H'
theorem scMembers : FnScope ["number", "count", "k"] ["number", "count"] (defScope s_members) := ⟨rfl, rfl, rfl, by decide +kernel, rfl, by decide +kernel, by decide +kernel⟩
theorem bit_int (N k : Nat) : ((N : Int) / 2 ^ ((k : Nat) : Int).toNat % 2 ^ 1 != 0) = N.testBit k := by
  rw [Int.toNat_natCast, Nat.testBit_eq_decide_div_mod_eq]
  have e : ((N : Int) / 2 ^ k % 2 ^ 1) = ((N / 2 ^ k % 2 : Nat) : Int) := by simp
  rw [e]
  have : N / 2 ^ k % 2 < 2 := Nat.mod_lt _ (by decide)
  generalize N / 2 ^ k % 2 = m at this
  match m, this with
  | 0, _ => rfl
  | 1, _ => rfl
abbrev rAndM : R2 := fun x y H Q => ∃ (i : Int) (k : Nat), x = .int i ∧ y = .int (2 ^ k - 1) ∧ Q (.int (i % 2 ^ k)) H
abbrev tTru (K : PySem.W.Frag) (te : TE) : TT := fun σ H Q => te σ H fun x H' => ∃ k, TruV K x H' k ∧ Q k H'
theorem et_tru {σ : L2.St} {H : Hp} {te : TE} {i : Int} {b : Bool} (h : Ev te σ H (.int i)) (e : (i != 0) = b) : EvT (tTru K te) σ H b := fun H1 e1 Q q => h H1 e1 _ fun H2 e2 => ⟨b, e.symm, q H2 e2⟩
abbrev rTupA (K : PySem.W.Frag) : List V → Hp → VK → Prop := fun xs H Q => ∃ p ys, xs = [V.ref p] ∧ ((SqL K H p ys ∧ ∀ l, H l = none → Q (.ref l) (upd H l (.tup ys))) ∨ (SqT K H p ys ∧ Q (.ref p) H))
/-- tuple(a new list) -/
theorem evN_tup {σ : L2.St} {H : Hp} {te : TE} {PA : Addr → Hp → Prop} {PB : List V → Hp → Prop} (h : EvN te σ H PA) (hx : ∀ p H', Ex H H' → PA p H' → ∃ xs, H' p = some (.lst xs) ∧ ∀ t, H' t = none → PB xs (upd H' t (.tup xs))) : EvN (tCB (rTupA K) (tCons te tNil)) σ H (fun p H' => ∃ xs, H' p = some (.tup xs) ∧ PB xs H') := fun H1 e Q q =>
  h H1 e _ fun p H2 np e2 hp => by
    obtain ⟨xs, hx', hb⟩ := hx p H2 (e.trans e2) hp
    exact ⟨p, xs, rfl, .inl ⟨sq_of hx', fun t nt => q t _ (fresh_back e2 nt) (e2.trans (Ex.new nt)) ⟨xs, upd_same, hb t nt⟩⟩⟩
theorem evN_tupNat {σ : L2.St} {H : Hp} {te : TE} {hs : List Nat} (h : EvN te σ H (fun p H' => H' p = some (.lst (hs.map nV)))) : EvN (tCB (rTupA K) (tCons te tNil)) σ H (fun p H' => H' p = some (.tup (hs.map nV))) :=
  (evN_tup (PB := fun xs _ => xs = hs.map nV) h fun p H' _ hp => ⟨_, hp, fun _ _ => rfl⟩).imp fun p H' _ ⟨xs, h1, h2⟩ => by rw [h1, h2]
theorem Rel.nats {H : Hp} : ∀ {bs : List Nat} {ys : List V}, Rel (fun b v _ => v = nV b) H bs ys → ys = bs.map nV
  | _, _, .nil => rfl
  | _, _, .cons g t => by rw [g, Rel.nats (H := H) t]; rfl
theorem LstOf.nats {bs : List Nat} {p : Addr} {H : Hp} (h : LstOf (fun b v _ => v = nV b) bs p H) : H p = some (.lst (bs.map nV)) := by
  obtain ⟨ys, h1, h2⟩ := h
  rw [h1, h2.nats]
theorem Stays.nat : Stays (fun (b : Nat) v _ => v = nV b) := ⟨fun _ _ _ _ _ h => h, fun _ _ _ _ _ _ _ h => h⟩
theorem ok_members (T : Txt K mg) (F : Fun K "members" "members" s_members f fd) : FnOk P w K mg base CX0 1 f fd ["number", "count"] spMembers := by
  refine F.ok scMembers (fun vs H Q E h => ?_) (fun cdv A outer s H vs Q E hr h => ?_)
  · obtain ⟨_, _, rfl, _⟩ := h
    rfl
  obtain ⟨N, n, rfl, hn, q⟩ := h
  refine ⟨_, pss_one (ps_ret (pe_callTy call_tuple_of (by rfl) T.b_tuple (by decide +kernel) (pa_cons
    (pe_lc (own := [("k", 2)]) (g := gName 2) (tt := tTru K (tOp rAndM (tOp (rI (fun _ j => 0 ≤ j) fun i j => .int (i / 2 ^ j.toNat)) (tVar 0) (tVar 2)) (tC (.int 1)))) (te := tVar 2) rfl scMembers.nd
      (pi_range1 (by rfl) T.b_range (pa_cons (pv 1) pa_nil)) (blkOk_by (by kernel_rfl)) (fun _ _ _ _ _ => pg_name (i := 2) scMembers.nd rfl (Or.inl rfl))
      (fun _ _ _ _ _ => pts_one (pt_truth (pe_op op_andM (pe_op op_shr (pv 0) (pv 2)) pe_int) (fun _ => rfl))) (fun _ _ _ _ _ => pv 2)) pa_nil))), ?_⟩
  have key := elP_rng1 (R := fun (b : Nat) v _ => v = nV b) (gt := gName 2) (tt := tTru K (tOp rAndM (tOp (rI (fun _ j => 0 ≤ j) fun i j => .int (i / 2 ^ j.toNat)) (tVar 0) (tVar 2)) (tC (.int 1)))) (te := tVar 2) (vs := [2]) (σ := [some (nV N), some (nV n), none]) (H := H)
    Stays.nat (n := (n : Int)) (ta := tCons (tVar 1) tNil) (fun k => N.testBit k) id (ea_one (ev_var rfl)) ⟨by omega, by omega⟩ fun k H1 e1 hk => lcTurn_name rfl
      (et_tru (ev_op (ev_op (ev_var rfl) (ev_var rfl) (rv_I (show (0 : Int) ≤ (k : Int) by omega))) ev_c (fun H2 e2 Q q => ⟨_, 1, rfl, rfl, q H2 (Ex.refl H2)⟩)) (bit_int N k)) fun _ => ev_p (ev_var rfl)
  refine s_retN (evN_tupNat (key.imp fun p H' _ h => h.nats)) fun p H1 np e1 hp => q p H1 np e1 ?_
  rw [hp]
  unfold gives mem
  rw [Int.toNat_natCast, List.map_id]
end
end NH
namespace NH
open PySem L2 Evl
section
variable {P : Program} {w : World} {K : PySem.W.Frag} {mg : Str → Option Value} {base : Heap} {f : Addr} {fd : FuncData}
theorem rel_each {β : Type} {R : β → V → Hp → Prop} {H : Hp} {bs : List β} {xs : List V} (r : Rel R H bs xs) {x : V} (hx : x ∈ xs) : ∃ b ∈ bs, R b x H := by
  obtain ⟨i, hi⟩ := List.mem_iff_getElem?.mp hx
  obtain ⟨b, hb, h⟩ := r.get hi
  exact ⟨b, List.mem_of_getElem? hb, h⟩
theorem evN_sortLen {σ : L2.St} {H : Hp} {te : TE} {hss : List (List Nat)} (h : EvN te σ H (LstOf HsR hss)) : EvN (tSortLen K (tCons te tNil)) σ H (fun p H' => ∃ cs, cs.Perm hss ∧ LstOf HsR cs p H') := fun H1 e Q q =>
  h H1 e _ fun p H2 np e2 ⟨ys, h1, h2⟩ => ⟨p, ys, rfl, sq_of h1, fun x hx => by
      obtain ⟨b, _, t, ht, ht2⟩ := rel_each h2 hx
      exact ⟨t, _, ht, ht2⟩, fun zs p2 hp n2 => by
      obtain ⟨cs, c1, c2⟩ := rel_perm hp h2
      exact q p2 _ (fresh_back e2 n2) (e2.trans (Ex.new n2)) ⟨cs, c1, zs, upd_same, c2.mono stays_hs.mono (Ex.new n2)⟩⟩
def spBySize : Sp := fun vs H Q _ => ∃ (n : Nat), vs = [nV n] ∧ n ≤ 10 ∧ ∀ hss p H', H p = none → Ex H H' → LstOf HsR hss p H' → hss.length ≤ 2000 → (∀ h, h ∈ hss ↔ HsOk n h) → Q (.ref p) H'
theorem scBySize : FnScope ["count", "number"] ["count"] (defScope s_by_size) := ⟨rfl, rfl, rfl, by decide +kernel, rfl, by decide +kernel, by decide +kernel⟩
theorem ok_by_size (T : Txt K mg) (C : Cl P w K mg base "members" 1 ["number", "count"] spMembers) (F : Fun K "by_size" "by_size" s_by_size f fd) : FnOk P w K mg base CX0 2 f fd ["count"] spBySize := by
  refine F.ok scBySize (fun vs H Q E h => ?_) (fun cdv A outer s H vs Q E hr h => ?_)
  · obtain ⟨_, rfl, _⟩ := h
    rfl
  obtain ⟨n, rfl, hn, q⟩ := h
  refine ⟨_, pss_one (ps_ret (pe_sortLen (hu8 hr) (by rfl) T.b_sorted (by rfl) T.b_len (pa_cons
    (pe_lc (own := [("number", 1)]) (g := gName 1) (tt := tYes) (te := tCall spMembers [] E0 (tCons (tVar 1) (tCons (tVar 0) tNil))) rfl scBySize.nd
      (pi_range2 (by rfl) T.b_range (pa_cons pe_int (pa_cons (pe_op op_shl pe_int (pv 0)) pa_nil))) (blkOk_by (by kernel_rfl)) (fun _ _ _ _ _ => pg_name (i := 1) scBySize.nd rfl (Or.inl rfl))
      (fun _ _ _ _ _ => pts_nil) (fun _ _ _ _ _ => pe_cl C hr (by rfl) (pa_cons (pv 1) (pa_cons (pv 0) pa_nil)))) pa_nil))), ?_⟩
  have hp1 : 2 ^ n ≤ 2 ^ 10 := Nat.pow_le_pow_right (by decide) hn
  have hp0 : 0 < 2 ^ n := Nat.two_pow_pos n
  have ev1 : Ev (tOp (rI CPow fun i j => .int (i * 2 ^ j.toNat)) (tC (.int 1)) (tVar 0)) [some (nV n), none] H (.int ((2 ^ n : Nat) : Int)) := ev_is (ev_op ev_c (ev_var rfl) (rv_I ⟨by omega, by omega, by decide⟩)) (by
    rw [Int.toNat_natCast, Int.one_mul]
    simp)
  have key := elP_rng2 (R := HsR) (gt := gName 1) (tt := tYes) (te := tCall spMembers [] E0 (tCons (tVar 1) (tCons (tVar 0) tNil))) (vs := [1]) (σ := [some (nV n), none]) (H := H) stays_hs (lo := 1) (n := ((2 ^ n : Nat) : Int))
    (ta := tCons (tC (.int 1)) (tCons (tOp (rI CPow fun i j => .int (i * 2 ^ j.toNat)) (tC (.int 1)) (tVar 0)) tNil)) (fun _ => true) (fun i => mem (1 + i) n) (ea_cons ev_c (ea_one ev1)) ⟨by decide, by omega, by omega⟩ fun i H1 e1 hi => lcTurn_name rfl evT_yes fun _ =>
      (evN_call (P := fun p H' => H' p = some (.tup ((mem (1 + i) n).map nV))) (ea_cons (ev_var rfl) (ea_one (ev_var rfl))) fun H2 e2 Q' q' => ⟨1 + i, n, by
        show [V.int (1 + (i : Int)), _] = [V.int ((1 + i : Nat) : Int), _]
        rw [Int.natCast_add]
        rfl, by omega, fun p H3 n3 e3 h3 => q' p H3 n3 e3 h3⟩).p.imp fun v H' _ ⟨p, h1, h2⟩ => ⟨p, h1, h2⟩
  have et : (((2 ^ n : Nat) : Int) - 1).toNat = 2 ^ n - 1 := by omega
  rw [et] at key
  refine s_retN (evN_sortLen (K := K) key) fun p H1 np e1 ⟨cs, c1, c2⟩ => q cs p H1 np e1 c2 ?_ fun h => ?_
  · rw [c1.length_eq]
    have := gives_len (2 ^ n - 1) (fun _ => true) (fun i => mem (1 + i) n)
    omega
  · rw [c1.mem_iff]
    unfold gives
    rw [List.filter_eq_self.mpr fun _ _ => rfl, List.mem_map]
    constructor
    · rintro ⟨i, hi, rfl⟩
      have := List.mem_range.mp hi
      exact mem_ok (by omega) (by omega)
    · intro ok
      obtain ⟨N, h1, h2, rfl⟩ := mem_all ok
      exact ⟨N - 1, List.mem_range.mpr (by omega), by rw [show 1 + (N - 1) = N by omega]⟩
end
end NH
namespace NH
open PySem L2 Evl
open PySem.W (Tup Datum DatumOrd minOf alikeAll_datum minD_map depthAll_map)
/-! ### the first of the least -/
section
variable {α : Type} [DecidableEq α] [DatumOrd α]
theorem toD_inj {a b : α} (h : Datum.toD a = Datum.toD b) : a = b := by
  have z := Datum.eqv a b
  have z2 := Datum.eqv b b
  rw [h] at z
  rw [z] at z2
  rw [decide_eq_true (rfl : b = b)] at z2
  exact of_decide_eq_true z2
theorem minOf_mem (x : α) : ∀ xs : List α, minOf x xs ∈ x :: xs := fun xs => by
  unfold minOf
  induction xs generalizing x with
  | nil => exact List.mem_cons_self
  | cons y ys ih =>
    rw [List.foldl_cons]
    rcases List.mem_cons.mp (ih (if DatumOrd.lt y x = true then y else x)) with h | h
    · rw [h]
      split
      · exact List.mem_cons_of_mem _ List.mem_cons_self
      · exact List.mem_cons_self
    · exact List.mem_cons_of_mem _ (List.mem_cons_of_mem _ h)
/-- a measure that the order never lets fall -/
theorem minOf_le (m : α → Int) (hm : ∀ a b, (DatumOrd.lt a b = true → m a ≤ m b) ∧ (DatumOrd.lt a b = false → m b ≤ m a)) (x : α) : ∀ xs : List α, ∀ y ∈ x :: xs, m (minOf x xs) ≤ m y := fun xs => by
  unfold minOf
  induction xs generalizing x with
  | nil =>
    intro y hy
    rw [List.mem_singleton.mp hy]
    exact Int.le_refl _
  | cons z zs ih =>
    intro y hy
    rw [List.foldl_cons]
    have h0 := ih (if DatumOrd.lt z x = true then z else x)
    have hs := h0 _ List.mem_cons_self
    have hx : m (if DatumOrd.lt z x = true then z else x) ≤ m x ∧ m (if DatumOrd.lt z x = true then z else x) ≤ m z := by
      cases hl : DatumOrd.lt z x with
      | true =>
        rw [if_pos rfl]
        exact ⟨(hm z x).1 hl, Int.le_refl _⟩
      | false =>
        rw [if_neg (by decide)]
        exact ⟨Int.le_refl _, (hm z x).2 hl⟩
    rcases List.mem_cons.mp hy with h | h
    · rw [h]
      exact Int.le_trans hs hx.1
    · rcases List.mem_cons.mp h with h | h
      · rw [h]
        exact Int.le_trans hs hx.2
      · exact h0 y (List.mem_cons_of_mem _ h)
end
section
variable {K : PySem.W.Frag}
theorem evP_of {σ : L2.St} {H : Hp} {te : TE} {v : V} {R : V → Hp → Prop} (h : Ev te σ H v) (k : ∀ H', Ex H H' → R v H') : EvP te σ H R := fun H1 e Q q => h H1 e _ fun H2 e2 => q v H2 e2 (k H2 (e.trans e2))
/-- a comprehension over a list of which only something is told -/
theorem elP_lstE {β : Type} {R : β → V → Hp → Prop} {σ : L2.St} {H : Hp} {tt : TT} {te : TE} {gt : TG} {vs : List Nat} (S : Stays R) {tl : TE} {α : Type} {RA : α → V → Hp → Prop} {A : List α → Prop} (mono : ∀ b v H H', Ex H H' → RA b v H → RA b v H') (F : α → Bool) (G : α → β) (h : EvP tl σ H (fun v H' => ∃ as a, v = .ref a ∧ A as ∧ LstOf RA as a H')) (hz : ∀ as, A as → as.length ≤ 40000)
    (ht : ∀ as (a : α) (x : V) H1, A as → Ex H H1 → a ∈ as → RA a x H1 → LcTurn R gt tt te vs σ H1 x (F a) (G a)) :
    EvN (tLc (iList K tl) gt tt te vs) σ H (fun p H' => ∃ as, A as ∧ LstOf R ((as.filter F).map G) p H') := fun H0 e Q q => by
  show tl σ H0 fun v H1 => tLc (iList K (tC v)) gt tt te vs σ H1 Q
  refine h H0 e _ fun v H1 e1 ⟨as, a, ev, hA, hL⟩ => ?_
  exact elP_lst S F G (RA := RA) (as := as) (tl := tC v) (H := H1) (fun H2 e2 Q2 q2 => q2 _ H2 (Ex.refl H2) ⟨a, ev, by
    obtain ⟨ys, h1, h2⟩ := hL
    exact ⟨ys, e2 _ _ h1, h2.mono mono e2⟩⟩) (hz as hA) (fun b x H2 e2 hb hr => ht as b x H2 hA ((e.trans e1).trans e2) hb hr) H1 (Ex.refl H1) Q fun p H2 np e2 hp => q p H2 (fresh_back e1 np) (e1.trans e2) ⟨as, hA, hp⟩
/-- min of a list of things of which only something is told -/
theorem evP_minDP {α : Type} [DecidableEq α] [DatumOrd α] {RA : α → V → Hp → Prop} {σ : L2.St} {H : Hp} {te : TE} {A : List α → Prop} (dp : ∀ a v H, RA a v H → Dp K H v (Datum.toD a)) (hd : Datum.depth α ≤ 4) (ne : ∀ as, A as → as ≠ []) (h : EvP te σ H (fun v H' => ∃ p, v = .ref p ∧ ∃ as, A as ∧ LstOf RA as p H')) :
    EvP (tCB (rMinD K) (tCons te tNil)) σ H (fun v H' => ∃ x xs, A (x :: xs) ∧ RA (minOf x xs) v H') := fun H1 e Q q => h H1 e _ fun v0 H2 e2 ⟨p, ev0, as, hA, ys, h1, h2⟩ => by
  subst ev0
  cases as with
  | nil => exact absurd rfl (ne _ hA)
  | cons x xs =>
    have dps : ∀ {bs : List α} {zs : List V}, Rel RA H2 bs zs → DpAll K H2 zs (bs.map Datum.toD) := by
      intro bs zs r
      induction r with
      | nil => exact .nil
      | cons g _ ih => exact .cons (dp _ _ _ g) ih
    refine ⟨p, ys, Datum.toD x, xs.map Datum.toD, rfl, sq_of h1, dps h2, alikeAll_datum (x :: xs), Nat.le_trans (depthAll_map (x :: xs)) hd, fun i v hv hm => ?_⟩
    rw [minD_map] at hm
    obtain ⟨b, hb, hr⟩ := h2.get hv
    have hm2 : ((x :: xs).map Datum.toD)[i]? = some (Datum.toD (minOf x xs)) := hm
    rw [List.getElem?_map, hb] at hm2
    have e3 : b = minOf x xs := toD_inj (Option.some.inj hm2)
    rw [e3] at hr
    exact q v H2 e2 ⟨x, xs, hA, hr⟩
theorem evP_minD {α : Type} [DecidableEq α] [DatumOrd α] {RA : α → V → Hp → Prop} {σ : L2.St} {H : Hp} {te : TE} {A : List α → Prop} (dp : ∀ a v H, RA a v H → Dp K H v (Datum.toD a)) (hd : Datum.depth α ≤ 4) (ne : ∀ as, A as → as ≠ []) (h : EvN te σ H (fun p H' => ∃ as, A as ∧ LstOf RA as p H')) :
    EvP (tCB (rMinD K) (tCons te tNil)) σ H (fun v H' => ∃ x xs, A (x :: xs) ∧ RA (minOf x xs) v H') := evP_minDP dp hd ne h.p
theorem hs_dp {h : List Nat} {v : V} {H : Hp} (r : HsR h v H) : Dp K H v (.tuple ((zN h).map PyData.int)) := by
  obtain ⟨a, rfl, ha⟩ := r
  exact dp_tup (by rw [zN_V]; exact ha)
/-- sorted of a list of tuples of places -/
theorem evN_sortedHs {σ : L2.St} {H : Hp} {te : TE} {A : List (List Nat) → Prop} (ne : ∀ hss, A hss → ∀ h ∈ hss, h ≠ []) (h : EvN te σ H (fun p H' => ∃ hss, A hss ∧ LstOf HsR hss p H')) :
    EvN (tCB (rSortedD K) (tCons te tNil)) σ H (fun p H' => ∃ hss cs, A hss ∧ cs.Perm hss ∧ LstOf HsR cs p H') := fun H1 e Q q => h H1 e _ fun p H2 np e2 ⟨hss, hA, ys, h1, h2⟩ => by
  have dps : ∀ {bs : List (List Nat)} {zs : List V}, Rel HsR H2 bs zs → DpAll K H2 zs (bs.map fun h => .tuple ((zN h).map PyData.int)) := by
    intro bs zs r
    induction r with
    | nil => exact .nil
    | cons g _ ih => exact .cons (hs_dp g) ih
  refine ⟨p, ys, hss.map fun h => .tuple ((zN h).map PyData.int), rfl, sq_of h1, dps h2, ?_, ?_, ?_, fun zs p2 hp n2 => ?_⟩
  · intro d hd d' hd'
    obtain ⟨a, _, rfl⟩ := List.mem_map.mp hd
    obtain ⟨b, _, rfl⟩ := List.mem_map.mp hd'
    simp only [PySem.W.alike]
    exact PySem.W.alike_ints _ _
  · refine .inl fun d hd => ?_
    obtain ⟨a, ha, rfl⟩ := List.mem_map.mp hd
    have hne := ne hss hA a ha
    cases a with
    | nil => exact absurd rfl hne
    | cons x r => exact ⟨_, _, rfl⟩
  · intro d hd
    obtain ⟨a, _, rfl⟩ := List.mem_map.mp hd
    simp only [PyData.depth, dep_ints]
    decide
  · obtain ⟨cs, c1, c2⟩ := rel_perm hp h2
    exact q p2 _ (fresh_back e2 n2) (e2.trans (Ex.new n2)) ⟨hss, cs, hA, c1, zs, upd_same, c2.mono stays_hs.mono (Ex.new n2)⟩
end
section
variable {P : Program} {w : World} {K : PySem.W.Frag} {mg : Str → Option Value} {base : Heap} {f : Addr} {fd : FuncData}
def spChoices : Sp := fun vs H Q _ => ∃ (p pw pr : Addr) (k : Int) (ws : List Int) (rs : List Road), vs = [.ref p, .int k] ∧ WebAt H p pw pr ws rs ∧ ws.length ≤ 10 ∧ ∀ hss p H', H p = none → Ex H H' → LstOf HsR hss p H' → hss.length ≤ 2000 → (∀ h, h ∈ hss ↔ HsOk ws.length h ∧ (h.length : Int) = k) → Q (.ref p) H'
theorem scChoices : FnScope ["web", "count", "houses"] ["web", "count"] (defScope s_choices) := ⟨rfl, rfl, rfl, by decide +kernel, rfl, by decide +kernel, by decide +kernel⟩
theorem ok_choices (T : Txt K mg) (C : Cl P w K mg base "by_size" 2 ["count"] spBySize) (F : Fun K "choices" "choices" s_choices f fd) : FnOk P w K mg base CX0 3 f fd ["web", "count"] spChoices := by
  refine F.ok scChoices (fun vs H Q E h => ?_) (fun cdv A outer s H vs Q E hr h => ?_)
  · obtain ⟨_, _, _, _, _, _, rfl, _⟩ := h
    rfl
  obtain ⟨p, pw, pr, k, ws, rs, rfl, hW, hn, q⟩ := h
  refine ⟨_, pss_one (ps_ret (pe_callB (cr_sortedD (hu8 hr)) (by rfl) T.b_sorted (by decide +kernel) (pa_cons
    (pe_lc (own := [("houses", 2)]) (g := gName 2) (tt := tTest (tOp rEq (tCB (rLenQ K) (tCons (tVar 2) tNil)) (tVar 1))) (te := tVar 2) rfl scChoices.nd
      (pi_list (pe_cl C hr (by rfl) (pa_cons (pe_callB call_len_seq (by rfl) T.b_len PySem.boot_len (pa_cons (pe_ix ix_tup (pv 0) pe_int (fun _ _ => rfl)) pa_nil)) pa_nil))) (blkOk_by (by kernel_rfl)) (fun _ _ _ _ _ => pg_name (i := 2) scChoices.nd rfl (Or.inl rfl))
      (fun _ _ _ _ _ => pts_one (pt_cmpR op_eq (pe_callB call_len_seq (by rfl) T.b_len PySem.boot_len (pa_cons (pv 2) pa_nil)) (pv 1) (nomark _))) (fun _ _ _ _ _ => pv 2)) pa_nil))), ?_⟩
  have key := elP_lstE (K := K) (R := HsR) (gt := gName 2) (tt := tTest (tOp rEq (tCB (rLenQ K) (tCons (tVar 2) tNil)) (tVar 1))) (te := tVar 2) (vs := [2]) (σ := [some (.ref p), some (.int k), none]) (H := H) stays_hs
    (tl := tCall spBySize [] E0 (tCons (tCB (rLenQ K) (tCons (tOp (rIxT K) (tVar 0) (tC (.int 0))) tNil)) tNil)) (RA := HsR) (A := fun as => as.length ≤ 2000 ∧ ∀ h, h ∈ as ↔ HsOk ws.length h) stays_hs.mono (fun h => decide ((h.length : Int) = k)) id
    ((evN_call (P := fun p H' => ∃ as, (as.length ≤ 2000 ∧ ∀ h, h ∈ as ↔ HsOk ws.length h) ∧ LstOf HsR as p H') (ea_one (ev_is (w := nV ws.length) (ev_lenT (ev_ixT (i := 0) (ev_var rfl) ev_c hW.web rfl) hW.wts) (by rw [List.length_map]))) fun H1 e1 Q' q' => ⟨ws.length, rfl, hn, fun hss p H' np e2 hl hz hm => q' p H' np e2 ⟨hss, ⟨hz, hm⟩, hl⟩⟩).p.imp fun v H' _ ⟨p, ev, as, h1, h2⟩ => ⟨as, p, ev, h1, h2⟩)
    (fun as hA => by have := hA.1; omega) fun as h x H1 hA e1 hm hx => by
      obtain ⟨t, rfl, ht⟩ := hx
      refine lcTurn_name rfl (et_is (et_cmp (ev_lenT (ev_var rfl) ht) (ev_var rfl) rv_eqI) (by rw [dec_int, List.length_map])) fun _ => evP_of (ev_var rfl) fun H2 e2 => ⟨t, rfl, e2 _ _ ht⟩
  have key2 := evN_sortedHs (K := K) (A := fun hss => hss.length ≤ 2000 ∧ ∀ h, h ∈ hss ↔ HsOk ws.length h ∧ (h.length : Int) = k) (fun hss hA h hm => ((hA.2 h).mp hm).1.ne) (key.imp fun p H' _ ⟨as, hA, hL⟩ => ⟨_, by
      rw [List.map_id]
      refine ⟨Nat.le_trans (List.length_filter_le _ _) hA.1, fun h => ?_⟩
      rw [List.mem_filter, hA.2, decide_eq_true_eq], hL⟩)
  exact s_retN key2 fun p H1 np e1 ⟨hss, cs, hA, c1, c2⟩ => q cs p H1 np e1 c2 (by rw [c1.length_eq]; exact hA.1) fun h => by rw [c1.mem_iff]; exact hA.2 h
end
end NH
namespace NH
open PySem L2 Evl
open PySem.W (Tup Datum DatumOrd minOf alikeAll_datum minD_map depthAll_map)
theorem WebOk.pos {ws : List Int} {rs : List Road} (h : WebOk ws rs) : 0 ≤ sumLen rs := by
  obtain ⟨L, h1, h2⟩ := h.ways 0 0 (by have := h.n2; omega) (by have := h.n2; omega)
  rcases h1 with ⟨_, rfl⟩ | ⟨m, hm⟩
  · exact h2
  · have := (W.pos h.rd (.inr ⟨m, hm⟩ : W rs 0 0 L))
    omega
theorem WebOk.tab {ws : List Int} {rs : List Road} (h : WebOk ws rs) : Sq ws.length (table ws.length rs) ∧ Exact ws.length rs (getM (table ws.length rs)) := table_exact h.rd h.pos h.ways
theorem WebOk.bds {ws : List Int} {rs : List Road} (h : WebOk ws rs) : ∀ r ∈ rs, r.1 < ws.length ∧ r.2.1 < ws.length := fun r hr => by
  have := h.rd.lt r hr
  have := h.rd.bd r hr
  omega
section
variable {K : PySem.W.Frag} {σ : L2.St} {H : Hp} {tw tr th : TE} {pw pr : Addr} {ws : List Int} {rows : List (List Int)} {hs : List Nat} {E : XK}
/-- sum_in(weights, rows, houses) -/
theorem ev_costP (S : Sq ws.length rows) (hw7 : ws.length ≤ 1000) (hw : ∀ x ∈ ws, 0 ≤ x ∧ x ≤ 100) (ne : hs ≠ []) (hl : hs.length ≤ 1000) (bd : ∀ x ∈ hs, x < ws.length) (hW : H pw = some (.tup (ws.map V.int))) (hR : RowsAt H pr rows)
    (h1 : Ev tw σ H (.ref pw)) (h2 : Ev tr σ H (.ref pr)) (h3 : EvP th σ H (fun v H' => ∃ ph, v = .ref ph ∧ HsAt H' ph hs)) : Ev (tCall spSum [] E (tCons tw (tCons tr (tCons th tNil)))) σ H (.int (cost ws rows hs)) :=
  EvP.ev (evP_callP (eap_three h1 h2 h3) fun vs H1 e1 ⟨u, ev, ph, eu, hH⟩ Q q => by
    subst ev
    subst eu
    exact ⟨pw, pr, ph, ws, rows, hs, rfl, e1 _ _ hW, hR.mono e1, hH, ne, by rw [S.1]; exact hw7, hl, fun row hr x hx => by rw [S.2 row hr]; exact bd x hx, S.1.symm, hw, fun H' e2 => q _ H' e2 rfl⟩)
theorem ev_cost {ph : Addr} (S : Sq ws.length rows) (hw7 : ws.length ≤ 1000) (hw : ∀ x ∈ ws, 0 ≤ x ∧ x ≤ 100) (ne : hs ≠ []) (hl : hs.length ≤ 1000) (bd : ∀ x ∈ hs, x < ws.length) (hW : H pw = some (.tup (ws.map V.int))) (hR : RowsAt H pr rows) (hH : HsAt H ph hs)
    (h1 : Ev tw σ H (.ref pw)) (h2 : Ev tr σ H (.ref pr)) (h3 : Ev th σ H (.ref ph)) : Ev (tCall spSum [] E (tCons tw (tCons tr (tCons th tNil)))) σ H (.int (cost ws rows hs)) :=
  ev_costP S hw7 hw ne hl bd hW hR h1 h2 (evP_of h3 fun H' e => ⟨ph, rfl, hH.mono e⟩)
/-- table_of(web) -/
theorem evN_table {tw : TE} {p pr' : Addr} {rs : List Road} {E : XK} (hW : WebAt H p pw pr' ws rs) (ok : WebOk ws rs) (h : Ev tw σ H (.ref p)) : EvN (tCall spTable [] E (tCons tw tNil)) σ H (fun q H' => RowsAt H' q (table ws.length rs)) :=
  evN_call (ea_one h) fun H1 e Q q => ⟨p, pw, pr', ws, rs, rfl, hW.mono e, by have := ok.n7; omega, by have := ok.len; omega, ok.bds, fun qq H' n e2 hq => q qq H' n e2 hq⟩
end
def BestR (b : Int × Tup Int) (v : V) (H : Hp) : Prop := ∃ t ph, v = .ref t ∧ H t = some (.tup [.int b.1, .ref ph]) ∧ H ph = some (.tup (b.2.items.map V.int))
theorem stays_best : Stays BestR := ⟨fun b v H H' e ⟨t, ph, h1, h2, h3⟩ => ⟨t, ph, h1, e _ _ h2, e _ _ h3⟩, fun b v H p xs ys hp ⟨t, ph, h1, h2, h3⟩ => ⟨t, ph, h1, tup_keep hp h2, tup_keep hp h3⟩⟩
theorem best_dp {K : PySem.W.Frag} (b : Int × Tup Int) (v : V) (H : Hp) (h : BestR b v H) : Dp K H v (Datum.toD b) := by
  obtain ⟨t, ph, rfl, h1, h2⟩ := h
  exact .tup (st_of h1) (.cons (.int _) (.cons (dp_tup h2) .nil))
theorem best_le : ∀ a b : Int × Tup Int, (DatumOrd.lt a b = true → a.1 ≤ b.1) ∧ (DatumOrd.lt a b = false → b.1 ≤ a.1) := fun a b => by
  have e : DatumOrd.lt a b = if a.1 = b.1 then DatumOrd.lt a.2 b.2 else decide (a.1 < b.1) := rfl
  rw [e]
  by_cases h : a.1 = b.1
  · exact ⟨fun _ => Int.le_of_eq h, fun _ => Int.le_of_eq h.symm⟩
  · rw [if_neg h]
    exact ⟨fun q => Int.le_of_lt (of_decide_eq_true q), fun q => by
      have := of_decide_eq_false q
      omega⟩
section
variable {P : Program} {w : World} {K : PySem.W.Frag} {mg : Str → Option Value} {base : Heap} {f : Addr} {fd : FuncData}
def spBest : Sp := fun vs H Q _ => ∃ (p pw pr : Addr) (k : Nat) (ws : List Int) (rs : List Road), vs = [.ref p, nV k] ∧ WebAt H p pw pr ws rs ∧ WebOk ws rs ∧ 1 ≤ k ∧ k ≤ ws.length ∧
  ∀ t ph h H', Ex H H' → H' t = some (.tup [.int (cost ws (table ws.length rs) h), .ref ph]) → H' ph = some (.tup (h.map nV)) → HsOk ws.length h → h.length = k → (∀ g, HsOk ws.length g → g.length = k → cost ws (table ws.length rs) h ≤ cost ws (table ws.length rs) g) → Q (.ref t) H'
theorem scBest : FnScope ["web", "count", "rows", "houses"] ["web", "count"] (defScope s_best_houses) := ⟨rfl, rfl, rfl, by decide +kernel, rfl, by decide +kernel, by decide +kernel⟩
theorem ok_best (T : Txt K mg) (CN : Cl P w K mg base "need_number" 4 ["web", "count"] spNeedNumber) (CT : Cl P w K mg base "table_of" 1 ["web"] spTable) (CS : Cl P w K mg base "sum_in" 2 ["weights", "rows", "houses"] spSum) (CC : Cl P w K mg base "choices" 3 ["web", "count"] spChoices)
    (F : Fun K "best_houses" "best_houses" s_best_houses f fd) : FnOk P w K mg base CX0 5 f fd ["web", "count"] spBest := by
  refine F.ok scBest (fun vs H Q E h => ?_) (fun cdv A outer s H vs Q E hr h => ?_)
  · obtain ⟨_, _, _, _, _, _, rfl, _⟩ := h
    rfl
  obtain ⟨p, pw, pr, k, ws, rs, rfl, hW, wok, k1, k2, q⟩ := h
  refine ⟨_, pss_cons (ps_expr (pe_cl CN hr (by rfl) (pa_cons (pv 0) (pa_cons (pv 1) pa_nil))))
    (pss_cons (ps_set (i := 2) scBest.nd rfl (Or.inr rfl) (pe_cl CT (hr.mono (by decide)) (by rfl) (pa_cons (pv 0) pa_nil)))
    (pss_one (ps_ret (pe_callB (cr_minD rfl (hu6 hr)) (by rfl) T.b_min (by decide +kernel) (pa_cons
      (pe_lc (own := [("houses", 3)]) (g := gName 3) (tt := tYes) (te := tTup (tCons (tCall spSum [] E0 (tCons (tOp (rIxT K) (tVar 0) (tC (.int 0))) (tCons (tVar 2) (tCons (tVar 3) tNil)))) (tCons (tVar 3) tNil))) rfl scBest.nd
        (pi_list (pe_cl CC (hr.mono (by decide)) (by rfl) (pa_cons (pv 0) (pa_cons (pv 1) pa_nil)))) (blkOk_by (by kernel_rfl)) (fun _ _ _ _ _ => pg_name (i := 3) scBest.nd rfl (Or.inl rfl))
        (fun _ _ _ _ _ => pts_nil) (fun _ _ _ _ _ => pe_tup (pa_cons (pe_cl CS (hr.mono (by decide)) (by rfl) (pa_cons (pe_ix ix_tup (pv 0) pe_int (fun _ _ => rfl)) (pa_cons (pv 2) (pa_cons (pv 3) pa_nil)))) (pa_cons (pv 3) pa_nil)))) pa_nil))))), ?_⟩
  refine q_drop (ev_cl (v := .non) (ea_cons (ev_var rfl) (ea_one (ev_var rfl))) fun H1 e Q q => ⟨p, pw, pr, k, ws, rs, rfl, hW.mono e, wok, by omega, by omega, q⟩) fun H1 e1 => ?_
  have hW1 := hW.mono e1
  refine q_asgN (evN_table hW1 wok (ev_var rfl)) fun pT H2 n2 e2 hT => ?_
  have hW2 := hW1.mono e2
  obtain ⟨S, _⟩ := wok.tab
  have n7 := wok.n7
  have key := elP_lstE (K := K) (R := BestR) (gt := gName 3) (tt := tYes) (te := tTup (tCons (tCall spSum [] E0 (tCons (tOp (rIxT K) (tVar 0) (tC (.int 0))) (tCons (tVar 2) (tCons (tVar 3) tNil)))) (tCons (tVar 3) tNil))) (vs := [3]) (σ := [some (.ref p), some (nV k), some (.ref pT), none]) (H := H2) stays_best
    (tl := tCall spChoices [] E0 (tCons (tVar 0) (tCons (tVar 1) tNil))) (RA := HsR) (A := fun as => as.length ≤ 2000 ∧ ∀ h, h ∈ as ↔ HsOk ws.length h ∧ (h.length : Int) = (k : Int)) stays_hs.mono (fun _ => true) (fun h => (cost ws (table ws.length rs) h, ⟨zN h⟩))
    ((evN_call (P := fun p H' => ∃ as, (as.length ≤ 2000 ∧ ∀ h, h ∈ as ↔ HsOk ws.length h ∧ (h.length : Int) = (k : Int)) ∧ LstOf HsR as p H') (ea_cons (ev_var rfl) (ea_one (ev_var rfl))) fun H3 e3 Q' q' => ⟨p, pw, pr, k, ws, rs, rfl, hW2.mono e3, by omega, fun hss p H' np e4 hl hz hm => q' p H' np e4 ⟨hss, ⟨hz, hm⟩, hl⟩⟩).p.imp fun v H' _ ⟨p, ev, as, h1, h2⟩ => ⟨as, p, ev, h1, h2⟩)
    (fun as hA => by have := hA.1; omega) fun as h x H3 hA e3 hm hx => by
      obtain ⟨t, rfl, ht⟩ := hx
      have ok := ((hA.2 h).mp hm).1
      have lh := ok.len
      refine lcTurn_name rfl evT_yes fun _ => ((EvU.n (eu_tup (ea_cons (ev_cost S (by omega) wok.wts ok.ne (by omega) ok.bd (e3 _ _ hW2.wts) (hT.mono e3) (.inl ht) (ev_ixT (i := 0) (ev_var rfl) ev_c (e3 _ _ hW2.web) rfl) (ev_var rfl) (ev_var rfl)) (ea_one (ev_var (i := 3) (v := .ref t) rfl))) (show (2 : Nat) ≤ 100000 by decide))).imp fun p4 H4 e4 h4 => (⟨p4, t, rfl, h4, by rw [e4 _ _ ht, zN_V]⟩ : BestR (cost ws (table ws.length rs) h, ⟨zN h⟩) (.ref p4) H4)).p.imp fun v H4 _ ⟨p4, ev, h4⟩ => by rw [ev]; exact h4
  have key2 := evP_minD (K := K) (RA := BestR) (A := fun bs => ∃ as : List (List Nat), (as.length ≤ 2000 ∧ ∀ h, h ∈ as ↔ HsOk ws.length h ∧ (h.length : Int) = (k : Int)) ∧ bs = (as.filter fun _ => true).map fun h => (cost ws (table ws.length rs) h, (⟨zN h⟩ : Tup Int))) best_dp (by decide) (fun bs ⟨as, hA, eb⟩ e => by
      subst eb
      rw [List.filter_eq_self.mpr fun _ _ => rfl] at e
      have z := List.map_eq_nil_iff.mp e
      have hk : HsOk ws.length (List.range k) := ⟨fun e => by
        have := congrArg List.length e
        rw [List.length_range] at this
        have : k = 0 := this
        omega, range_up k, fun x hx => by have := List.mem_range.mp hx; omega⟩
      have := (hA.2 _).mpr ⟨hk, by rw [List.length_range]⟩
      rw [z] at this
      cases this) (key.imp fun p H' _ ⟨as, hA, hL⟩ => ⟨_, ⟨as, hA, rfl⟩, hL⟩)
  refine s_retP key2 fun v H3 e3 ⟨x, xs, ⟨as, hA, eb⟩, t, ph, ev, h1, h2⟩ => ?_
  rw [List.filter_eq_self.mpr fun _ _ => rfl] at eb
  have hm := minOf_mem x xs
  have hle := minOf_le (fun b : Int × Tup Int => b.1) best_le x xs
  rw [eb] at hm hle
  obtain ⟨h, hh, e⟩ := List.mem_map.mp hm
  obtain ⟨ok, hl⟩ := (hA.2 h).mp hh
  subst ev
  refine q t ph h H3 (e1.trans (e2.trans e3)) (by rw [h1, ← e]) (by rw [h2, ← e]; exact congrArg (fun z => some (HO.tup z)) (zN_V h)) ok (by omega) fun g gok gl => ?_
  have z := hle _ (List.mem_map.mpr ⟨g, (hA.2 g).mpr ⟨gok, by omega⟩, rfl⟩)
  rw [← e] at z
  exact z
end
end NH
namespace NH
open PySem L2 Evl
/-! ### exchanges -/
/-- hs with g gone and f fresh, rising -/
def ins (n : Nat) (hs : List Nat) (g f : Nat) : List Nat := (List.range n).filter fun x => decide (x = f ∨ (x ∈ hs ∧ x ≠ g))
def fxs (n : Nat) (hs : List Nat) (g : Nat) : List (List Nat) := ((List.range n).filter fun f => decide (f ∉ hs)).map fun f => ins n hs g f
def exs (n : Nat) (hs : List Nat) : List (List Nat) := hs.flatMap (fxs n hs)
def isLess (ws : List Int) (rows : List (List Int)) (hs o : List Nat) : Bool := decide (cost ws rows o < cost ws rows hs)
def better (ws : List Int) (rows : List (List Int)) (hs : List Nat) : List (List Nat) := (exs ws.length hs).filter (isLess ws rows hs)
theorem mem_ins {n : Nat} {hs : List Nat} {g f x : Nat} : x ∈ ins n hs g f ↔ x < n ∧ (x = f ∨ (x ∈ hs ∧ x ≠ g)) := by
  unfold ins
  rw [List.mem_filter, List.mem_range, decide_eq_true_eq]
theorem ins_up (n : Nat) (hs : List Nat) (g f : Nat) : (ins n hs g f).Pairwise (· < ·) := (range_up n).filter _
theorem mem_exs {n : Nat} {hs o : List Nat} : o ∈ exs n hs ↔ ∃ g ∈ hs, ∃ f, f < n ∧ f ∉ hs ∧ o = ins n hs g f := by
  unfold exs fxs
  rw [List.mem_flatMap]
  constructor
  · rintro ⟨g, hg, ho⟩
    obtain ⟨f, hf, e⟩ := List.mem_map.mp ho
    obtain ⟨h1, h2⟩ := List.mem_filter.mp hf
    exact ⟨g, hg, f, List.mem_range.mp h1, of_decide_eq_true h2, e.symm⟩
  · rintro ⟨g, hg, f, h1, h2, rfl⟩
    exact ⟨g, hg, List.mem_map.mpr ⟨f, List.mem_filter.mpr ⟨List.mem_range.mpr h1, decide_eq_true h2⟩, rfl⟩⟩
/-- a rising whole list that holds the same as the filtered with one more -/
theorem ins_of {n : Nat} {hs : List Nat} {g f : Nat} (ok : HsOk n hs) (hf : f < n) (hn : f ∉ hs) {ns : List Int} (pm : ns.Perm (zN (hs.filter (fun x => decide (x ≠ g)) ++ [f]))) (pw : ns.Pairwise (· ≤ ·)) : ns = zN (ins n hs g f) := by
  have nd : (zN (hs.filter (fun x => decide (x ≠ g)) ++ [f])).Nodup := by
    unfold zN
    refine List.Pairwise.map (R := (· ≠ ·)) Int.ofNat (fun a b h e => h (Int.ofNat.inj e)) ?_
    refine List.nodup_append.mpr ⟨ok.nd.filter _, by simp, fun a ha b hb => ?_⟩
    rw [List.mem_singleton.mp hb]
    exact fun e => hn (e ▸ (List.mem_filter.mp ha).1)
  have nd2 : ns.Nodup := pm.nodup_iff.mpr nd
  have up : ns.Pairwise (· < ·) := (pw.and nd2).imp fun {a b} h => by
    have := h.1
    have := h.2
    omega
  refine rising_same up (zN_rising (ins_up n hs g f)) fun x => ?_
  rw [pm.mem_iff, zN_mem', zN_mem', List.mem_append, List.mem_filter, List.mem_singleton, mem_ins, decide_eq_true_eq]
  constructor
  · rintro ⟨h0, h | h⟩
    · exact ⟨h0, ok.bd _ h.1, .inr h⟩
    · exact ⟨h0, by omega, .inl h⟩
  · rintro ⟨h0, _, h | h⟩
    · exact ⟨h0, .inr h⟩
    · exact ⟨h0, .inl h⟩
theorem ins_len {n : Nat} {hs : List Nat} {g f : Nat} (ok : HsOk n hs) (hg : g ∈ hs) (hf : f < n) (hn : f ∉ hs) : (ins n hs g f).length = hs.length := by
  have e := ins_of (g := g) ok hf hn (ns := (zN (hs.filter (fun x => decide (x ≠ g)) ++ [f])).mergeSort) (List.mergeSort_perm _ _) ((List.pairwise_mergeSort (le := fun a b : Int => decide (a ≤ b)) (fun a b c h1 h2 => by
      rw [decide_eq_true_eq] at *
      omega) (fun a b => by
      rw [Bool.or_eq_true, decide_eq_true_eq, decide_eq_true_eq]
      omega) _).imp fun {a b} h => of_decide_eq_true h)
  have l := congrArg List.length e
  rw [(List.mergeSort_perm _ _).length_eq] at l
  unfold zN at l
  rw [List.length_map, List.length_map, List.length_append, List.length_singleton] at l
  have l2 : (hs.filter fun x => decide (x ≠ g)).length = hs.length - 1 := by
    rw [← List.length_erase_of_mem hg, ok.nd.erase_eq_filter]
    congr 1
    exact List.filter_congr fun x _ => by
      by_cases h : x = g
      · subst h; simp
      · rw [decide_eq_true h]; simp [h]
  have : 0 < hs.length := List.length_pos_iff.mpr ok.ne
  omega
theorem ins_ok {n : Nat} {hs : List Nat} {g f : Nat} (hf : f < n) : HsOk n (ins n hs g f) :=
  ⟨fun e => by
    have : f ∈ ins n hs g f := mem_ins.mpr ⟨hf, .inl rfl⟩
    rw [e] at this
    exact absurd this List.not_mem_nil, ins_up n hs g f, fun x hx => (mem_ins.mp hx).1⟩
theorem exs_ok {n : Nat} {hs o : List Nat} (ok : HsOk n hs) (h : o ∈ exs n hs) : HsOk n o ∧ o.length = hs.length := by
  obtain ⟨g, hg, f, h1, h2, rfl⟩ := mem_exs.mp h
  exact ⟨ins_ok h1, ins_len ok hg h1 h2⟩
theorem better_ok {ws : List Int} {rows : List (List Int)} {hs o : List Nat} (ok : HsOk ws.length hs) (h : o ∈ better ws rows hs) : HsOk ws.length o ∧ o.length = hs.length ∧ cost ws rows o < cost ws rows hs := by
  obtain ⟨h1, h2⟩ := List.mem_filter.mp h
  obtain ⟨a, b⟩ := exs_ok ok h1
  exact ⟨a, b, of_decide_eq_true h2⟩
section
variable {K : PySem.W.Frag} {σ : L2.St} {H : Hp}
/-- a new list + [x] -/
theorem evN_cat1 {te tx : TE} {l : List Nat} {x : Nat} (h : EvP te σ H (fun v H' => ∃ p, v = .ref p ∧ H' p = some (.lst (l.map nV)))) (hx : ∀ H', Ex H H' → Ev tx σ H' (nV x)) (hl : l.length ≤ 1000) : EvN (tOp rCat te (tLst (tCons tx tNil))) σ H (fun p H' => H' p = some (.lst ((l ++ [x]).map nV))) := fun H1 e Q q =>
  h H1 e _ fun v H2 e2 ⟨p, ev, hp⟩ => by
    subst ev
    refine el_lst (ea_one (hx H1 e)) (show (1 : Nat) ≤ 100000 by decide) H2 e2 _ fun b H3 nb e3 hb => ⟨p, b, _, _, rfl, rfl, e3 _ _ hp, hb, ?_, fun p4 n4 => ?_⟩
    · rw [List.length_map]
      have := sz_of (n := l.length + 1) (by omega)
      exact this
    · refine q p4 _ (fresh_back (e2.trans e3) n4) ((e2.trans e3).trans (Ex.new n4)) ?_
      dsimp only
      rw [upd_same, List.map_append]
      rfl
/-- sorted of a list of places -/
theorem evN_sortedNatP {te : TE} {l : List Nat} (h : EvP te σ H (fun v H' => ∃ p, v = .ref p ∧ H' p = some (.lst (l.map nV)))) (hl : l.length < 64) : EvN (tCB (rSorted K) (tCons te tNil)) σ H (fun p H' => ∃ ns : List Int, H' p = some (.lst (ns.map V.int)) ∧ ns.Perm (zN l) ∧ ns.Pairwise (· ≤ ·)) := fun H1 e Q q =>
  h H1 e _ fun v H2 e2 ⟨p, ev, hp⟩ => by
    subst ev
    exact ⟨p, zN l, rfl, by rw [zN_V]; exact sq_of hp, by unfold zN; rw [List.length_map]; exact hl, fun ns p2 pm pw n2 => q p2 _ (fresh_back e2 n2) (e2.trans (Ex.new n2)) ⟨ns, upd_same, pm, pw⟩⟩
/-- tuple(sorted(..)) -/
theorem evN_tupSortedP {te : TE} {l hs : List Nat} (h : EvP te σ H (fun v H' => ∃ p, v = .ref p ∧ H' p = some (.lst (l.map nV)))) (hl : l.length < 64) (is : ∀ ns : List Int, ns.Perm (zN l) → ns.Pairwise (· ≤ ·) → ns = zN hs) :
    EvN (tCB (rTupA K) (tCons (tCB (rSorted K) (tCons te tNil)) tNil)) σ H (fun p H' => H' p = some (.tup (hs.map nV))) :=
  evN_tupNat ((evN_sortedNatP (K := K) h hl).imp fun p H' _ ⟨ns, h1, h2, h3⟩ => by rw [h1, is ns h2 h3, zN_V])
theorem evN_tupSorted {te : TE} {l hs : List Nat} (h : EvN te σ H (fun p H' => H' p = some (.lst (l.map nV)))) (hl : l.length < 64) (is : ∀ ns : List Int, ns.Perm (zN l) → ns.Pairwise (· ≤ ·) → ns = zN hs) :
    EvN (tCB (rTupA K) (tCons (tCB (rSorted K) (tCons te tNil)) tNil)) σ H (fun p H' => H' p = some (.tup (hs.map nV))) := evN_tupSortedP h.p hl is
/-- [x for x in hs if x != g] -/
theorem evN_gone {σ : L2.St} {ph : Addr} {hs : List Nat} {g gs xs hi : Nat} (hH : H ph = some (.tup (hs.map nV))) (hl : hs.length ≤ 1000) (hh : σ[hi]? = some (some (.ref ph)))
    (w : ∀ x, wipe ((wipe σ [xs]).set xs (some x)) [xs] = wipe σ [xs]) (h1 : ∀ x, ((wipe σ [xs]).set xs (some x))[xs]? = some (some x)) (h2 : ∀ x, ((wipe σ [xs]).set xs (some x))[gs]? = some (some (nV g))) :
    EvN (tLc (iTup K (tVar hi)) (gName xs) (tTest (tOp rNe (tVar xs) (tVar gs))) (tVar xs) [xs]) σ H (fun p H' => H' p = some (.lst ((hs.filter (fun x => decide (x ≠ g))).map nV))) := by
  have key := elP_tup (K := K) (R := fun (b : Nat) v _ => v = nV b) (gt := gName xs) (tt := tTest (tOp rNe (tVar xs) (tVar gs))) (te := tVar xs) (vs := [xs]) (σ := σ) (H := H) Stays.nat same_mono (as := hs) (tl := tVar hi)
    (fun x : Nat => decide (x ≠ g)) id (evP_tup same_mono (ev_var hh) hH (rel_nV hs)) (by omega) fun x v H2 e2 hx hv => by
      subst hv
      refine lcTurn_name (w _) (et_is (et_cmp (ev_var (h1 _)) (ev_var (h2 _)) (rv_ne rfl)) ?_) fun _ => ev_p (ev_var (h1 _))
      rw [dec_nat]
      by_cases h : x = g
      · subst h; simp
      · rw [decide_eq_false h, decide_eq_true h]; rfl
  exact key.imp fun p H' _ h => by
    have := h.nats
    rw [List.map_id] at this
    exact this
end
end NH
namespace NH
open PySem L2 Evl
theorem filter_flat_take {α β : Type} (g : α → List β) (p : β → Bool) {l : List α} {i : Nat} {a : α} (h : l[i]? = some a) : ((l.take (i + 1)).flatMap g).filter p = ((l.take i).flatMap g).filter p ++ (g a).filter p := by
  rw [List.take_add_one, h, List.flatMap_append, List.filter_append]
  simp
/-- the first of a filtered list, when the part ahead gives none -/
theorem head_of {β : Type} (p : β → Bool) {l1 l2 : List β} {o : β} (h1 : l1.filter p = []) (h2 : p o = true) : ((l1 ++ o :: l2).filter p).head? = some o := by
  rw [List.filter_append, h1, List.nil_append, List.filter_cons, if_pos h2]
  rfl
theorem range_split {n j : Nat} (h : j < n) : List.range n = List.range j ++ j :: (List.range' (j + 1) (n - (j + 1))) := by
  rw [List.range_eq_range', List.range_eq_range']
  have e : n = j + (1 + (n - (j + 1))) := by omega
  conv => lhs; rw [e]
  rw [← List.range'_append_1, ← List.range'_append_1]
  simp
section
variable {P : Program} {w : World} {K : PySem.W.Frag} {mg : Str → Option Value} {base : Heap} {f : Addr} {fd : FuncData}
def FxR (o : Option (List Nat)) (v : V) (H : Hp) : Prop := match o with
  | none => v = .non
  | some h => HsR h v H
def spFx : Sp := fun vs H Q _ => ∃ (p pw pr pT ph : Addr) (ws : List Int) (rs : List Road) (rows : List (List Int)) (hs : List Nat), vs = [.ref p, .ref pT, .ref ph] ∧ WebAt H p pw pr ws rs ∧ WebOk ws rs ∧ RowsAt H pT rows ∧ Sq ws.length rows ∧ H ph = some (.tup (hs.map nV)) ∧ HsOk ws.length hs ∧
  ∀ v H', Ex H H' → FxR (better ws rows hs).head? v H' → Q v H'
theorem scFx : FnScope ["web", "rows", "houses", "total", "gone", "fresh", "other", "x"] ["web", "rows", "houses"] (defScope s_first_exchange) := ⟨rfl, rfl, rfl, by decide +kernel, rfl, by decide +kernel, by decide +kernel⟩
theorem ok_fx (T : Txt K mg) (CS : Cl P w K mg base "sum_in" 2 ["weights", "rows", "houses"] spSum) (F : Fun K "first_exchange" "first_exchange" s_first_exchange f fd) : FnOk P w K mg base CX0 3 f fd ["web", "rows", "houses"] spFx := by
  refine F.ok scFx (fun vs H Q E h => ?_) (fun cdv A outer s H vs Q E hr h => ?_)
  · obtain ⟨_, _, _, _, _, _, _, _, _, rfl, _⟩ := h
    rfl
  obtain ⟨p, pw, pr, pT, ph, ws, rs, rows, hs, rfl, hW, wok, hT, S, hH, ok, q⟩ := h
  refine ⟨_, pss_cons (ps_set (i := 3) scFx.nd rfl (Or.inl rfl) (pe_cl CS hr (by rfl) (pa_cons (pe_ix ix_tup (pv 0) pe_int (fun _ _ => rfl)) (pa_cons (pv 1) (pa_cons (pv 2) pa_nil)))))
    (pss_cons (ps_for PassesOwn.never rfl (pi_tup (pv 2)) (pg_name (i := 4) scFx.nd rfl (Or.inr rfl))
      (pss_one (ps_for PassesOwn.never rfl (pi_range1 (by rfl) T.b_range (pa_cons (pe_callB call_len_seq (by rfl) T.b_len PySem.boot_len (pa_cons (pv 1) pa_nil)) pa_nil)) (pg_name (i := 5) scFx.nd rfl (Or.inl rfl))
        (pss_one (ps_if (pt_cmpR op_notIn_seq (pv 5) (pv 2) (by rfl))
          (pss_cons (ps_set (i := 6) scFx.nd rfl (Or.inl rfl) (pe_callTy call_tuple_of (by rfl) T.b_tuple (by decide +kernel) (pa_cons (pe_callB cr_sorted (by rfl) T.b_sorted (by decide +kernel) (pa_cons (pe_op op_cat
            (pe_lc (own := [("x", 7)]) (g := gName 7) (tt := tTest (tOp rNe (tVar 7) (tVar 4))) (te := tVar 7) rfl scFx.nd (pi_tup (pv 2)) (blkOk_by (by kernel_rfl)) (fun _ _ _ _ _ => pg_name (i := 7) scFx.nd rfl (Or.inl rfl))
              (fun _ _ _ _ _ => pts_one (pt_cmpR op_ne (pv 7) (pv 4) (nomark _))) (fun _ _ _ _ _ => pv 7))
            (pe_lst (pa_cons (pv 5) pa_nil))) pa_nil)) pa_nil)))
          (pss_one (ps_if (pt_cmpR op_lt (pe_cl CS hr (by rfl) (pa_cons (pe_ix ix_tup (pv 0) pe_int (fun _ _ => rfl)) (pa_cons (pv 1) (pa_cons (pv 6) pa_nil)))) (pv 3) (nomark _)) (pss_one (ps_ret (pv 6))) pss_nil)))
          pss_nil)))))
    (pss_one (ps_ret pe_non))), ?_⟩
  have n7 := wok.n7
  have hl := ok.len
  have lrows : rows.length = ws.length := S.1
  refine q_asg (ev_cost S (by omega) wok.wts ok.ne (by omega) ok.bd hW.wts hT (.inl hH) (ev_ixT (i := 0) (ev_var rfl) ev_c hW.web rfl) (ev_var rfl) (ev_var rfl)) fun H1 e1 => ?_
  have hW1 := hW.mono e1
  have hT1 := hT.mono e1
  have hH1 := e1 _ _ hH
  refine q_forT (K := K) (ev_var (i := 2) (v := .ref ph) rfl) (st_of hH1) (fun i σ H' => ∃ u4 u5 u6, σ = [some (.ref p), some (.ref pT), some (.ref ph), some (.int (cost ws rows hs)), u4, u5, u6, none] ∧ Ex H1 H' ∧ ((hs.take i).flatMap (fxs ws.length hs)).filter (isLess ws rows hs) = [])
    (fun H2 e2 => ⟨_, _, _, rfl, e2, rfl⟩) (fun i σ H' _ ⟨_, _, _, _, e, _⟩ => st_of (e _ _ hH1)) ?_ ?_
  · rintro i x σ H2 hx ⟨u4, u5, u6, rfl, e2, hnone⟩
    obtain ⟨g, hg, rfl⟩ := ix_nat' hx
    have hgm := List.mem_of_getElem? hg
    obtain ⟨ysT, hT2, hTr⟩ := hT1.mono e2
    refine s_forR1 (n := (ws.length : Int)) (ea_one (ev_is (ev_lenL (ev_var rfl) hT2) (by rw [← hTr.length, lrows]))) ⟨by omega, by omega⟩ (fun j σ H' => ∃ u5 u6, σ = [some (.ref p), some (.ref pT), some (.ref ph), some (.int (cost ws rows hs)), some (nV g), u5, u6, none] ∧ Ex H1 H' ∧ ((((List.range j).filter fun f => decide (f ∉ hs)).map fun f => ins ws.length hs g f).filter (isLess ws rows hs)) = [])
      (fun H3 e3 => ⟨_, _, rfl, e2.trans e3, rfl⟩) ?_ ?_
    · rintro j σ H3 hj ⟨u5, u6, rfl, e3, hnone2⟩
      have hj' : j < ws.length := by omega
      have t1 : EvT (tTest (tOp (rIn K true) (tVar 5) (tVar 2))) [some (.ref p), some (.ref pT), some (.ref ph), some (.int (cost ws rows hs)), some (nV g), some (nV j), u6, none] H3 (!decide (j ∈ hs)) := by
        have z := et_cmp (ev_var (σ := [some (.ref p), some (.ref pT), some (.ref ph), some (.int (cost ws rows hs)), some (nV g), some (nV j), u6, none]) (i := 5) rfl) (ev_var (i := 2) rfl) (rv_niT (K := K) (st_of (e3 _ _ hH1)) rfl (flat_nat _) (x := nV j))
        rw [inV_nat] at z
        exact z
      refine s_when t1 (fun hb H4 e4 => ?_) fun hb H4 e4 => ⟨_, _, rfl, e3.trans e4, ?_⟩
      · have hjn : j ∉ hs := by
          simp only [Bool.not_eq_true', decide_eq_false_iff_not] at hb
          exact hb
        have e34 := e3.trans e4
        have hH4 := e34 _ _ hH1
        refine q_asgN (evN_tupSorted (K := K) (hs := ins ws.length hs g j) (l := hs.filter (fun x => decide (x ≠ g)) ++ [j]) (evN_cat1 (evN_gone (K := K) (g := g) (gs := 4) (xs := 7) (hi := 2) hH4 (by omega) rfl (fun _ => rfl) (fun _ => rfl) (fun _ => rfl)).p (fun _ _ => ev_var rfl) (Nat.le_trans (List.length_filter_le _ _) (by omega))) (by
            rw [List.length_append, List.length_singleton]
            have := List.length_filter_le (fun x => decide (x ≠ g)) hs
            omega) fun ns pm pw => ins_of ok hj' hjn pm pw) fun po H5 n5 e5 hO => ?_
        have oki := ins_ok (hs := hs) (g := g) hj'
        have lo := oki.len
        have e15 := e34.trans e5
        have hW5 := hW1.mono e15
        refine s_when (et_cmp (ev_cost S (by omega) wok.wts oki.ne (by omega) oki.bd hW5.wts (hT1.mono e15) (.inl hO) (ev_ixT (i := 0) (ev_var rfl) ev_c hW5.web rfl) (ev_var rfl) (ev_var rfl)) (ev_var rfl) (rv_I0 (g := fun i j => .bl (decide (i < j))))) (fun hb H6 e6 => ?_) fun hb H6 e6 => ⟨_, _, rfl, e15.trans e6, ?_⟩
        · refine s_ret (ev_var rfl) fun H7 e7 => q _ H7 ((e1.trans e15).trans (e6.trans e7)) ?_
          have z : (better ws rows hs).head? = some (ins ws.length hs g j) := by
            unfold better exs
            have sp := List.getElem?_eq_some_iff.mp hg
            have e0 : hs = hs.take i ++ g :: hs.drop (i + 1) := by
              rw [← sp.2]
              simp
            have ef : fxs ws.length hs g = (((List.range j).filter fun f => decide (f ∉ hs)).map fun f => ins ws.length hs g f) ++ ins ws.length hs g j :: (((List.range' (j + 1) (ws.length - (j + 1))).filter fun f => decide (f ∉ hs)).map fun f => ins ws.length hs g f) := by
              unfold fxs
              rw [range_split hj', List.filter_append, List.map_append, List.filter_cons, if_pos (decide_eq_true hjn)]
              rfl
            have e8 : hs.flatMap (fxs ws.length hs) = ((hs.take i).flatMap (fxs ws.length hs) ++ (((List.range j).filter fun f => decide (f ∉ hs)).map fun f => ins ws.length hs g f)) ++ ins ws.length hs g j :: ((((List.range' (j + 1) (ws.length - (j + 1))).filter fun f => decide (f ∉ hs)).map fun f => ins ws.length hs g f) ++ (hs.drop (i + 1)).flatMap (fxs ws.length hs)) := by
              conv => lhs; arg 2; rw [e0]
              rw [List.flatMap_append, List.flatMap_cons, ef]
              simp
            rw [e8]
            refine head_of _ ?_ hb
            rw [List.filter_append, hnone, hnone2]
            rfl
          rw [z]
          exact ⟨po, rfl, e7 _ _ (e6 _ _ hO)⟩
        · rw [List.range_succ, List.filter_append, List.map_append, List.filter_append, hnone2, List.filter_cons, if_pos (decide_eq_true hjn)]
          show List.filter _ [ins ws.length hs g j] = []
          rw [List.filter_cons, if_neg (by rw [show isLess ws rows hs (ins ws.length hs g j) = false from hb]; decide)]
          rfl
      · rw [List.range_succ, List.filter_append, List.map_append, List.filter_append, hnone2, List.filter_cons, if_neg (by simpa using hb)]
        rfl
    · rintro σ H3 ⟨u5, u6, rfl, e3, hnone2⟩
      refine ⟨_, _, _, rfl, e3, ?_⟩
      rw [filter_flat_take _ _ hg, hnone]
      have tn : ((ws.length : Int)).toNat = ws.length := Int.toNat_natCast _
      rw [tn] at hnone2
      exact hnone2
  · rintro σ H2 ⟨u4, u5, u6, rfl, e2, hnone⟩
    refine s_ret ev_c fun H3 e3 => q _ H3 (e1.trans (e2.trans e3)) ?_
    have z : (better ws rows hs).head? = none := by
      rw [List.length_map, List.take_of_length_le (Nat.le_refl _)] at hnone
      unfold better exs
      rw [hnone]
      rfl
    rw [z]
    rfl
end
end NH
namespace NH
open PySem L2 Evl
/-! ### the sum as a plain one -/
def wF (ws : List Int) (j : Nat) : Int := ws.getD j 0
theorem cost_eq {ws : List Int} {rows : List (List Int)} {hs : List Nat} (S : Sq ws.length rows) : cost ws rows hs = costF ws.length (wF ws) (getM rows) hs := by
  unfold cost costF sm
  congr 1
  have hl : (near rows hs).length = ws.length := by rw [near_len, S.1]
  refine List.ext_getElem (by rw [List.length_map, List.length_zip, hl, Nat.min_self, List.length_map, List.length_range]) fun i h1 h2 => ?_
  have hi : i < ws.length := by rw [List.length_map, List.length_range] at h2; exact h2
  rw [List.getElem_map, List.getElem_zip, List.getElem_map, List.getElem_range]
  have e1 : ws[i] = wF ws i := by
    unfold wF
    rw [List.getD_eq_getElem?_getD, List.getElem?_eq_getElem hi]
    rfl
  have e2 : (near rows hs)[i]'(by rw [hl]; exact hi) = nearF (getM rows) hs i := by
    unfold near nearF
    rw [List.getElem_map]
    congr 1
    refine List.map_congr_left fun x _ => ?_
    unfold getM
    rw [List.getD_eq_getElem?_getD (l := rows), List.getElem?_eq_getElem (by rw [S.1]; exact hi)]
    rfl
  show ws[i] * (near rows hs)[i] = _
  rw [e1, e2]
theorem wF_pos {ws : List Int} (hw : ∀ x ∈ ws, 0 ≤ x ∧ x ≤ 100) : ∀ j, j < ws.length → 0 ≤ wF ws j := fun j hj => by
  unfold wF
  rw [List.getD_eq_getElem?_getD, List.getElem?_eq_getElem hj]
  exact (hw _ (List.getElem_mem hj)).1
/-- a table that is a metric's -/
structure TabM (ws : List Int) (rows : List (List Int)) : Prop where
  sq : Sq ws.length rows
  me : Metric ws.length (getM rows)
  wt : ∀ x ∈ ws, 0 ≤ x ∧ x ≤ 100
  n7 : ws.length ≤ 7
theorem WebOk.tabM {ws : List Int} {rs : List Road} (h : WebOk ws rs) : TabM ws (table ws.length rs) := ⟨h.tab.1, h.tab.2.metric h.rd, h.wts, h.n7⟩
theorem TabM.pos {ws : List Int} {rows : List (List Int)} {hs : List Nat} (t : TabM ws rows) (ok : HsOk ws.length hs) : 0 ≤ cost ws rows hs := by
  rw [cost_eq t.sq]
  exact costF_nonneg t.me (wF_pos t.wt) ok.ne ok.bd
/-! ### exchanges one behind another -/
def stp (ws : List Int) (rows : List (List Int)) (hs : List Nat) : List Nat := (better ws rows hs).head?.getD hs
def itr {α : Type} (g : α → α) : Nat → α → α
  | 0, a => a
  | n + 1, a => g (itr g n a)
theorem itr_add {α : Type} (g : α → α) (a : α) (m : Nat) : ∀ k, itr g (k + m) a = itr g k (itr g m a)
  | 0 => by rw [Nat.zero_add]; rfl
  | k + 1 => by
    rw [Nat.add_right_comm]
    show g (itr g (k + m) a) = _
    rw [itr_add g a m k]
    rfl
theorem itr_fix {α : Type} (g : α → α) (a : α) (h : g a = a) : ∀ k, itr g k a = a
  | 0 => rfl
  | k + 1 => by
    show g (itr g k a) = a
    rw [itr_fix g a h k, h]
section
variable {ws : List Int} {rows : List (List Int)}
theorem stp_ok {hs : List Nat} (ok : HsOk ws.length hs) : HsOk ws.length (stp ws rows hs) ∧ (stp ws rows hs).length = hs.length := by
  unfold stp
  cases e : (better ws rows hs).head? with
  | none => exact ⟨ok, rfl⟩
  | some o =>
    obtain ⟨a, b, _⟩ := better_ok ok (List.mem_of_mem_head? (by rw [e]; rfl))
    exact ⟨a, b⟩
theorem stp_fix {hs : List Nat} (h : better ws rows hs = []) : stp ws rows hs = hs := by
  unfold stp
  rw [h]
  rfl
theorem stp_cons {hs o : List Nat} {r : List (List Nat)} (h : better ws rows hs = o :: r) : stp ws rows hs = o := by
  unfold stp
  rw [h]
  rfl
theorem stp_lt {hs : List Nat} (ok : HsOk ws.length hs) (h : better ws rows hs ≠ []) : cost ws rows (stp ws rows hs) < cost ws rows hs := by
  unfold stp
  cases e : better ws rows hs with
  | nil => exact absurd e h
  | cons o r => exact (better_ok ok (by rw [e]; exact List.mem_cons_self)).2.2
theorem itr_ok {hs : List Nat} (ok : HsOk ws.length hs) : ∀ m, HsOk ws.length (itr (stp ws rows) m hs) ∧ (itr (stp ws rows) m hs).length = hs.length
  | 0 => ⟨ok, rfl⟩
  | m + 1 => by
    obtain ⟨a, b⟩ := itr_ok ok m
    obtain ⟨c, d⟩ := stp_ok (rows := rows) a
    exact ⟨c, d.trans b⟩
end
section
variable {K : PySem.W.Frag} {σ : L2.St} {H : Hp}
abbrev rIsNn : R2 := fun x y H Q => y = V.non ∧ Q (.bl (decide (x = .non))) H
abbrev rNotNn : R2 := fun x y H Q => y = V.non ∧ Q (.bl (!decide (x = .non))) H
theorem ev_isNP {te : TE} {R : V → Hp → Prop} {b : Bool} (h : EvP te σ H R) (hb : ∀ v H', R v H' → decide (v = V.non) = b) : Ev (tOp rIsNn te (tC .non)) σ H (.bl b) := fun H1 e Q q =>
  h H1 e _ fun v H2 e2 hv => ⟨rfl, by rw [hb v H2 hv]; exact q H2 e2⟩
theorem eap_mid {t1 t2 t3 : TE} {x y : V} {R : V → Hp → Prop} (mono : ∀ v H H', Ex H H' → R v H → R v H') (h1 : Ev t1 σ H x) (h2 : EvP t2 σ H R) (h3 : Ev t3 σ H y) : EvAP (tCons t1 (tCons t2 (tCons t3 tNil))) σ H (fun vs H' => ∃ u, vs = [x, u, y] ∧ R u H') := fun H1 e Q q =>
  h1 H1 e _ fun H2 e2 => h2 H2 (e.trans e2) _ fun u H3 e3 hu => h3 H3 ((e.trans e2).trans e3) _ fun H4 e4 => q _ H4 ((e2.trans e3).trans e4) ⟨u, rfl, mono u H3 H4 e4 hu⟩
end
section
variable {σ : L2.St} {H : Hp} {D : Ends} {tz : TS}
theorem eap_first {t1 t2 t3 : TE} {x y : V} {R : V → Hp → Prop} (mono : ∀ v H H', Ex H H' → R v H → R v H') (h1 : EvP t1 σ H R) (h2 : Ev t2 σ H x) (h3 : Ev t3 σ H y) : EvAP (tCons t1 (tCons t2 (tCons t3 tNil))) σ H (fun vs H' => ∃ u, vs = [u, x, y] ∧ R u H') := fun H1 e Q q =>
  h1 H1 e _ fun u H2 e2 hu => h2 H2 (e.trans e2) _ fun H3 e3 => h3 H3 ((e.trans e2).trans e3) _ fun H4 e4 => q _ H4 ((e2.trans e3).trans e4) ⟨u, rfl, mono u H2 H4 (e3.trans e4) hu⟩
theorem q_par3P {i j l : Nat} {t1 t2 t3 : TE} {x y : V} {R : V → Hp → Prop} (mono : ∀ v H H', Ex H H' → R v H → R v H') (h1 : EvP t1 σ H R) (h2 : Ev t2 σ H x) (h3 : Ev t3 σ H y) (k : ∀ u H1, Ex H H1 → R u H1 → tz D (((σ.set i (some u)).set j (some x)).set l (some y)) H1) :
    tSeq (tPar3 i j l (tCons t1 (tCons t2 (tCons t3 tNil)))) tz D σ H := by
  show tCons t1 (tCons t2 (tCons t3 tNil)) σ H fun vs H1 => ∃ u v w, vs = [u, v, w] ∧ tz D (((σ.set i (some u)).set j (some v)).set l (some w)) H1
  exact eap_first mono h1 h2 h3 H (Ex.refl H) _ fun vs H1 e ⟨u, ev, hu⟩ => ⟨u, x, y, ev, k u H1 e hu⟩
end
theorem fx_non {o : Option (List Nat)} {v : V} {H : Hp} (h : FxR o v H) : decide (v = V.non) = o.isNone := by
  cases o with
  | none =>
    have e : v = .non := h
    rw [e]
    rfl
  | some l =>
    obtain ⟨a, e, _⟩ := h
    rw [e]
    rfl
section
variable {P : Program} {w : World} {K : PySem.W.Frag} {mg : Str → Option Value} {base : Heap} {f : Addr} {fd : FuncData}
def spIsSettled : Sp := fun vs H Q _ => ∃ (p pw pr ph : Addr) (ws : List Int) (rs : List Road) (hs : List Nat), vs = [.ref p, .ref ph] ∧ WebAt H p pw pr ws rs ∧ WebOk ws rs ∧ H ph = some (.tup (hs.map nV)) ∧ HsOk ws.length hs ∧
  ∀ H', Ex H H' → Q (.bl (better ws (table ws.length rs) hs).isEmpty) H'
theorem scIsSettled : FnScope ["web", "houses"] ["web", "houses"] (defScope s_is_settled) := ⟨rfl, rfl, rfl, by decide +kernel, rfl, by decide +kernel, by decide +kernel⟩
theorem ok_is_settled (T : Txt K mg) (CB : Cl P w K mg base "need_both" 4 ["web", "houses"] spNeedBoth) (CT : Cl P w K mg base "table_of" 1 ["web"] spTable) (CF : Cl P w K mg base "first_exchange" 3 ["web", "rows", "houses"] spFx) (F : Fun K "is_settled" "is_settled" s_is_settled f fd) : FnOk P w K mg base CX0 5 f fd ["web", "houses"] spIsSettled := by
  refine F.ok scIsSettled (fun vs H Q E h => ?_) (fun cdv A outer s H vs Q E hr h => ?_)
  · obtain ⟨_, _, _, _, _, _, _, rfl, _⟩ := h
    rfl
  obtain ⟨p, pw, pr, ph, ws, rs, hs, rfl, hW, wok, hH, ok, q⟩ := h
  refine ⟨_, pss_cons (ps_expr (pe_cl CB hr (by rfl) (pa_cons (pv 0) (pa_cons (pv 1) pa_nil)))) (pss_one (ps_ret (pe_cmpR op_isN (pe_cl CF (hr.mono (by decide)) (by rfl) (pa_cons (pv 0) (pa_cons (pe_cl CT (hr.mono (by decide)) (by rfl) (pa_cons (pv 0) pa_nil)) (pa_cons (pv 1) pa_nil)))) pe_non (nomark _)))), ?_⟩
  refine q_drop (ev_cl (v := .non) (ea_cons (ev_var rfl) (ea_one (ev_var rfl))) fun H1 e Q q => ⟨p, pw, pr, ph, ws, rs, hs, rfl, hW.mono e, wok, e _ _ hH, ok, q⟩) fun H1 e1 => ?_
  have hW1 := hW.mono e1
  have hH1 := e1 _ _ hH
  refine s_ret (ev_isNP (b := (better ws (table ws.length rs) hs).isEmpty) (evP_callP (P := FxR (better ws (table ws.length rs) hs).head?) (eap_mid (R := fun v H' => ∃ q, v = .ref q ∧ RowsAt H' q (table ws.length rs)) (fun v H H' e ⟨q, h1, h2⟩ => ⟨q, h1, h2.mono e⟩) (ev_var (v := .ref p) rfl) (evN_table hW1 wok (ev_var rfl)).p (ev_var (v := .ref ph) rfl)) fun vs H2 e2 ⟨u, ev, pT, eu, hT⟩ Q' q' => ?_) fun v H' hv => ?_) fun H2 e2 => q H2 (e1.trans e2)
  · subst ev
    subst eu
    exact ⟨p, pw, pr, pT, ph, ws, rs, _, hs, rfl, hW1.mono e2, wok, hT, wok.tab.1, e2 _ _ hH1, ok, q'⟩
  · rw [fx_non hv]
    cases better ws (table ws.length rs) hs <;> rfl
def spSettled : Sp := fun vs H Q _ => ∃ (p pw pr ph : Addr) (ws : List Int) (rs : List Road) (hs : List Nat), vs = [.ref p, .ref ph] ∧ WebAt H p pw pr ws rs ∧ WebOk ws rs ∧ H ph = some (.tup (hs.map nV)) ∧ HsOk ws.length hs ∧
  ∀ m p' H', Ex H H' → better ws (table ws.length rs) (itr (stp ws (table ws.length rs)) m hs) = [] → H' p' = some (.tup ((itr (stp ws (table ws.length rs)) m hs).map nV)) → Q (.ref p') H'
theorem scSettled : FnScope ["web", "houses", "rows", "found", "other"] ["web", "houses"] (defScope s_settled) := ⟨rfl, rfl, rfl, by decide +kernel, rfl, by decide +kernel, by decide +kernel⟩
theorem ok_settled (T : Txt K mg) (CB : Cl P w K mg base "need_both" 4 ["web", "houses"] spNeedBoth) (CT : Cl P w K mg base "table_of" 1 ["web"] spTable) (CF : Cl P w K mg base "first_exchange" 3 ["web", "rows", "houses"] spFx) (F : Fun K "settled" "settled" s_settled f fd) : FnOk P w K mg base CX0 5 f fd ["web", "houses"] spSettled := by
  refine F.ok scSettled (fun vs H Q E h => ?_) (fun cdv A outer s H vs Q E hr h => ?_)
  · obtain ⟨_, _, _, _, _, _, _, rfl, _⟩ := h
    rfl
  obtain ⟨p, pw, pr, ph, ws, rs, hs, rfl, hW, wok, hH, ok, q⟩ := h
  refine ⟨_, pss_cons (ps_expr (pe_cl CB hr (by rfl) (pa_cons (pv 0) (pa_cons (pv 1) pa_nil))))
    (pss_cons (ps_par3 (i := 2) (j := 3) (l := 4) rfl scSettled.nd rfl rfl rfl (by decide) (by decide) (by decide) rfl rfl rfl (pa_cons (pe_cl CT (hr.mono (by decide)) (by rfl) (pa_cons (pv 0) pa_nil)) (pa_cons (pv 1) (pa_cons (pv 1) pa_nil))) (by rfl))
    (pss_cons (ps_while PassesOwn.never (pt_cmpR op_notN (pv 4) pe_non (nomark _))
      (pss_cons (ps_set (i := 3) scSettled.nd rfl (Or.inl rfl) (pv 4))
      (pss_one (ps_set (i := 4) scSettled.nd rfl (Or.inl rfl) (pe_cl CF (hr.mono (by decide)) (by rfl) (pa_cons (pv 0) (pa_cons (pv 2) (pa_cons (pv 3) pa_nil))))))))
    (pss_one (ps_ret (pv 3))))), ?_⟩
  refine q_drop (ev_cl (v := .non) (ea_cons (ev_var rfl) (ea_one (ev_var rfl))) fun H1 e Q q => ⟨p, pw, pr, ph, ws, rs, hs, rfl, hW.mono e, wok, e _ _ hH, ok, q⟩) fun H1 e1 => ?_
  have hW1 := hW.mono e1
  have hH1 := e1 _ _ hH
  refine q_par3P (R := fun v H' => ∃ q, v = .ref q ∧ RowsAt H' q (table ws.length rs)) (fun v H H' e ⟨q, h1, h2⟩ => ⟨q, h1, h2.mono e⟩) (evN_table hW1 wok (ev_var rfl)).p (ev_var (v := .ref ph) rfl) (ev_var (v := .ref ph) rfl) fun u H2 e2 ⟨pT, eu, hT⟩ => ?_
  subst eu
  have hW2 := hW1.mono e2
  have hH2 := e2 _ _ hH1
  have tm := wok.tabM
  generalize hrows : table ws.length rs = rows at *
  refine q_while (fun μ σ' H' => ∃ vf vo, σ' = [some (.ref p), some (.ref ph), some (.ref pT), some vf, some vo] ∧ Ex H2 H' ∧ ((∃ m po, vo = .ref po ∧ H' po = some (.tup ((itr (stp ws rows) m hs).map nV)) ∧ μ = (cost ws rows (itr (stp ws rows) m hs)).toNat + 1) ∨
      (μ = 0 ∧ vo = .non ∧ ∃ m pf, vf = .ref pf ∧ H' pf = some (.tup ((itr (stp ws rows) m hs).map nV)) ∧ better ws rows (itr (stp ws rows) m hs) = []))) _
    ⟨_, _, rfl, Ex.refl H2, .inl ⟨0, ph, rfl, hH2, rfl⟩⟩ ?_
  rintro μ σ' H3 ⟨vf, vo, rfl, e3, ⟨m, po, rfl, hpo, rfl⟩ | ⟨rfl, rfl, m, pf, rfl, hpf, hb⟩⟩
  · refine ⟨true, ev_is_t (et_test (b := true) (ev_op (ev_var (v := .ref po) rfl) ev_c fun H4 e4 Q' q' => ⟨rfl, q' H4 (Ex.refl H4)⟩)) rfl, fun _ H4 e4 => ?_, (fun h => by cases h)⟩
    obtain ⟨oki, lni⟩ := itr_ok (rows := rows) ok m
    refine ⟨fun σ2 H5 => ∃ vf vo, σ2 = [some (.ref p), some (.ref ph), some (.ref pT), some vf, some vo] ∧ Ex H2 H5 ∧ ((∃ po, vo = .ref po ∧ H5 po = some (.tup ((itr (stp ws rows) (m + 1) hs).map nV)) ∧ better ws rows (itr (stp ws rows) m hs) ≠ []) ∨
      (vo = .non ∧ ∃ pf, vf = .ref pf ∧ H5 pf = some (.tup ((itr (stp ws rows) m hs).map nV)) ∧ better ws rows (itr (stp ws rows) m hs) = [])), ?_, ?_⟩
    · rintro σ2 H5 ⟨vf, vo, rfl, e5, ⟨po, rfl, h1, h2⟩ | ⟨rfl, pf, rfl, h1, h2⟩⟩
      · refine ⟨_, ?_, vf, _, rfl, e5, .inl ⟨m + 1, po, rfl, h1, rfl⟩⟩
        have z1 := stp_lt oki h2
        have z2 := tm.pos (itr_ok (rows := rows) ok (m + 1)).1
        have z3 : cost ws rows (itr (stp ws rows) (m + 1) hs) < cost ws rows (itr (stp ws rows) m hs) := z1
        omega
      · exact ⟨0, by omega, _, _, rfl, e5, .inr ⟨rfl, rfl, m, pf, rfl, h1, h2⟩⟩
    · refine q_asg (ev_var (v := .ref po) rfl) fun H5 e5 => ?_
      have e35 := (e3.trans e4).trans e5
      have hpo5 := e5 _ _ (e4 _ _ hpo)
      refine s_asgP (evP_call (P := FxR (better ws rows (itr (stp ws rows) m hs)).head?) (ea_cons (ev_var (v := .ref p) rfl) (ea_cons (ev_var (v := .ref pT) rfl) (ea_one (ev_var (v := .ref po) rfl)))) fun H6 e6 Q' q' => ⟨p, pw, pr, pT, po, ws, rs, rows, _, rfl, (hW2.mono e35).mono e6, wok, (hT.mono e35).mono e6, tm.sq, e6 _ _ hpo5, oki, q'⟩) fun v H6 e6 hv => ?_
      refine ⟨_, _, rfl, e35.trans e6, ?_⟩
      cases hbe : better ws rows (itr (stp ws rows) m hs) with
      | nil =>
        rw [hbe] at hv
        exact .inr ⟨hv, po, rfl, e6 _ _ hpo5, rfl⟩
      | cons o r =>
        rw [hbe] at hv
        obtain ⟨a, ea, ha⟩ := hv
        refine .inl ⟨a, ea, ?_, fun e => by cases e⟩
        have es : itr (stp ws rows) (m + 1) hs = o := stp_cons hbe
        rw [es]
        exact ha
  · refine ⟨false, ev_is_t (et_test (b := false) (ev_op (ev_var (v := .non) rfl) ev_c fun H4 e4 Q' q' => ⟨rfl, q' H4 (Ex.refl H4)⟩)) rfl, (fun h => by cases h), fun _ H4 e4 => ?_⟩
    exact s_ret (ev_var (v := .ref pf) rfl) fun H5 e5 => q m pf H5 (e1.trans (e2.trans (e3.trans (e4.trans e5)))) hb (e5 _ _ (e4 _ _ hpf))
end
end NH
namespace NH
open PySem L2 Evl
open PySem.W (Tup Datum DatumOrd minOf alikeAll_datum minD_map depthAll_map)
theorem sub_len {α : Type} [DecidableEq α] : ∀ {l m : List α}, l.Nodup → (∀ x ∈ l, x ∈ m) → l.length ≤ m.length
  | [], _, _, _ => Nat.zero_le _
  | x :: t, m, nd, h => by
    obtain ⟨n1, n2⟩ := List.nodup_cons.mp nd
    have hx := h x List.mem_cons_self
    have z := sub_len (l := t) (m := m.erase x) n2 fun y hy => (List.mem_erase_of_ne (fun e => n1 (by rw [← e]; exact hy))).mpr (h y (List.mem_cons_of_mem _ hy))
    rw [List.length_erase_of_mem hx] at z
    have : 0 < m.length := List.length_pos_of_mem hx
    rw [List.length_cons]
    omega
/-! ### houses taken one behind another -/
def gPairs (ws : List Int) (rows : List (List Int)) (hs : List Nat) : List (Int × Int) := ((List.range ws.length).filter fun x => decide (x ∉ hs)).map fun x : Nat => (cost ws rows (hs ++ [x]), (x : Int))
def gMin (ws : List Int) (rows : List (List Int)) (hs : List Nat) : Int × Int := match gPairs ws rows hs with
  | [] => (0, 0)
  | x :: xs => minOf x xs
def gStep (ws : List Int) (rows : List (List Int)) (hs : List Nat) : List Nat := hs ++ [(gMin ws rows hs).2.toNat]
def gro (ws : List Int) (rows : List (List Int)) (k : Nat) : List Nat := itr (gStep ws rows) k []
def upOf (n : Nat) (hs : List Nat) : List Nat := (List.range n).filter fun x => decide (x ∈ hs)
section
variable {ws : List Int} {rows : List (List Int)}
theorem gMin_is {hs : List Nat} {x : Int × Int} {xs : List (Int × Int)} (e : gPairs ws rows hs = x :: xs) : gMin ws rows hs = minOf x xs := by
  unfold gMin
  rw [e]
theorem gPairs_ne {hs : List Nat} (hl : hs.length < ws.length) : gPairs ws rows hs ≠ [] := fun e => by
  have z := List.filter_eq_nil_iff.mp (List.map_eq_nil_iff.mp e)
  have l := sub_len (l := List.range ws.length) (m := hs) (List.nodup_range) fun x hx => by
    have := z x hx
    simpa using this
  rw [List.length_range] at l
  omega
theorem gMin_mem {hs : List Nat} (hl : hs.length < ws.length) : gMin ws rows hs ∈ gPairs ws rows hs := by
  cases e : gPairs ws rows hs with
  | nil => exact absurd e (gPairs_ne hl)
  | cons x xs =>
    rw [gMin_is e]
    exact minOf_mem x xs
theorem gMin_at {hs : List Nat} (hl : hs.length < ws.length) : ∃ x : Nat, x < ws.length ∧ x ∉ hs ∧ gMin ws rows hs = (cost ws rows (hs ++ [x]), (x : Int)) := by
  obtain ⟨x, hx, e⟩ := List.mem_map.mp (gMin_mem (rows := rows) hl)
  obtain ⟨h1, h2⟩ := List.mem_filter.mp hx
  exact ⟨x, List.mem_range.mp h1, of_decide_eq_true h2, e.symm⟩
theorem gro_succ (k : Nat) : gro ws rows (k + 1) = gro ws rows k ++ [(gMin ws rows (gro ws rows k)).2.toNat] := rfl
theorem gro_ok : ∀ k, k ≤ ws.length → (gro ws rows k).Nodup ∧ (gro ws rows k).length = k ∧ ∀ x ∈ gro ws rows k, x < ws.length
  | 0, _ => ⟨List.nodup_nil, rfl, fun x h => absurd h List.not_mem_nil⟩
  | k + 1, h => by
    obtain ⟨a, b, c⟩ := gro_ok k (by omega)
    obtain ⟨x, h1, h2, h3⟩ := gMin_at (ws := ws) (rows := rows) (hs := gro ws rows k) (by omega)
    have e : (gMin ws rows (gro ws rows k)).2.toNat = x := by rw [h3]; exact Int.toNat_natCast x
    rw [gro_succ, e]
    refine ⟨List.nodup_append.mpr ⟨a, by simp, fun y hy z hz => ?_⟩, by rw [List.length_append, b]; rfl, fun y hy => ?_⟩
    · rw [List.mem_singleton.mp hz]
      exact fun e => h2 (e ▸ hy)
    · rcases List.mem_append.mp hy with h | h
      · exact c y h
      · rw [List.mem_singleton.mp h]; exact h1
/-- the rising whole list with the members of a list without twice -/
theorem upOf_is {n : Nat} {hs : List Nat} (nd : hs.Nodup) (bd : ∀ x ∈ hs, x < n) {ns : List Int} (pm : ns.Perm (zN hs)) (pw : ns.Pairwise (· ≤ ·)) : ns = zN (upOf n hs) := by
  have nd1 : (zN hs).Nodup := by
    unfold zN
    exact List.Pairwise.map (R := (· ≠ ·)) Int.ofNat (fun a b h e => h (Int.ofNat.inj e)) nd
  have nd2 : ns.Nodup := pm.nodup_iff.mpr nd1
  have up : ns.Pairwise (· < ·) := (pw.and nd2).imp fun {a b} h => by
    have := h.1
    have := h.2
    omega
  refine rising_same up (zN_rising ((range_up n).filter _)) fun x => ?_
  rw [pm.mem_iff, zN_mem', zN_mem', upOf, List.mem_filter, List.mem_range, decide_eq_true_eq]
  exact ⟨fun ⟨a, b⟩ => ⟨a, bd _ b, b⟩, fun ⟨a, _, b⟩ => ⟨a, b⟩⟩
end
def IIR (b : Int × Int) (v : V) (H : Hp) : Prop := ∃ t, v = .ref t ∧ H t = some (.tup [.int b.1, .int b.2])
theorem stays_ii : Stays IIR := ⟨fun b v H H' e ⟨t, h1, h2⟩ => ⟨t, h1, e _ _ h2⟩, fun b v H p xs ys hp ⟨t, h1, h2⟩ => ⟨t, h1, tup_keep hp h2⟩⟩
theorem ii_dp {K : PySem.W.Frag} (b : Int × Int) (v : V) (H : Hp) (h : IIR b v H) : Dp K H v (Datum.toD b) := by
  obtain ⟨t, rfl, h1⟩ := h
  exact .tup (st_of h1) (.cons (.int _) (.cons (.int _) .nil))
section
variable {K : PySem.W.Frag} {σ : L2.St} {H : Hp} {D : Ends} {tz : TS}
/-- x, y, z = a, b, c -/
theorem q_asgTrip {ta tb tc : TE} {x : V} {R : V → Hp → Prop} {S : Hp → V → Hp → Prop} {i j k : Nat} (monoS : ∀ Hm v H H', Ex H H' → S Hm v H → S Hm v H') (ha : EvP ta σ H R) (hb : ∀ Hm, Ex H Hm → EvP tb σ Hm (S Hm)) (hc : Ev tc σ H x) (kk : ∀ u v Hm H1, Ex H Hm → R u Hm → Ex Hm H1 → S Hm v H1 → tz D (((σ.set i (some u)).set j (some v)).set k (some x)) H1) :
    tSeq (tAsg (tTup (tCons ta (tCons tb (tCons tc tNil)))) (gTup K 3 (gCons (gName i) (gCons (gName j) (gCons (gName k) gNil))))) tz D σ H := by
  show tCons ta (tCons tb (tCons tc tNil)) σ H fun vs H1 => vs.length ≤ sizeLine ∧ ∀ p, H1 p = none → gTup K 3 (gCons (gName i) (gCons (gName j) (gCons (gName k) gNil))) (.ref p) σ (upd H1 p (.tup vs)) (tz D)
  refine ha H (Ex.refl H) _ fun u H1 e1 hu => hb H1 e1 H1 (Ex.refl H1) _ fun v H2 e2 hv => hc H2 (e1.trans e2) _ fun H3 e3 => ?_
  refine ⟨three_line, fun p np => g_trip upd_same (kk u v H1 _ e1 hu ((e2.trans e3).trans (Ex.new np)) (monoS _ _ _ _ (e3.trans (Ex.new np)) hv))⟩
/-- (a, new) -/
theorem evN_tupN2 {ta tb : TE} {x : V} {PB : Addr → Hp → Prop} (mono : ∀ p H H', Ex H H' → PB p H → PB p H') (ha : Ev ta σ H x) (hb : EvN tb σ H PB) : EvN (tTup (tCons ta (tCons tb tNil))) σ H (fun p H' => ∃ b, H' p = some (.tup [x, .ref b]) ∧ PB b H') := fun H1 e Q q =>
  ha H1 e _ fun H2 e2 => hb H2 (e.trans e2) _ fun b H3 nb e3 h3 => ⟨two_line, fun p np => q p _ (fresh_back (e2.trans e3) np) ((e2.trans e3).trans (Ex.new np)) ⟨b, upd_same, mono _ _ _ (Ex.new np) h3⟩⟩
end
section
variable {P : Program} {w : World} {K : PySem.W.Frag} {mg : Str → Option Value} {base : Heap} {f : Addr} {fd : FuncData}
/-- what is told of houses grown: the last sum, and them rising -/
def GrownR (ws : List Int) (rows : List (List Int)) (k : Nat) (p : Addr) (H : Hp) : Prop := ∃ ph, H p = some (.tup [.int (gMin ws rows (gro ws rows (k - 1))).1, .ref ph]) ∧ H ph = some (.tup ((upOf ws.length (gro ws rows k)).map nV))
def spGrown : Sp := fun vs H Q _ => ∃ (p pw pr : Addr) (k : Nat) (ws : List Int) (rs : List Road), vs = [.ref p, nV k] ∧ WebAt H p pw pr ws rs ∧ WebOk ws rs ∧ 1 ≤ k ∧ k ≤ ws.length ∧
  ∀ t H', Ex H H' → GrownR ws (table ws.length rs) k t H' → Q (.ref t) H'
theorem scGrown : FnScope ["web", "count", "rows", "houses", "best", "turn", "some", "x"] ["web", "count"] (defScope s_grown_houses) := ⟨rfl, rfl, rfl, by decide +kernel, rfl, by decide +kernel, by decide +kernel⟩
theorem ok_grown (T : Txt K mg) (CN : Cl P w K mg base "need_number" 4 ["web", "count"] spNeedNumber) (CT : Cl P w K mg base "table_of" 1 ["web"] spTable) (CS : Cl P w K mg base "sum_in" 2 ["weights", "rows", "houses"] spSum)
    (F : Fun K "grown_houses" "grown_houses" s_grown_houses f fd) : FnOk P w K mg base CX0 5 f fd ["web", "count"] spGrown := by
  refine F.ok scGrown (fun vs H Q E h => ?_) (fun cdv A outer s H vs Q E hr h => ?_)
  · obtain ⟨_, _, _, _, _, _, rfl, _⟩ := h
    rfl
  obtain ⟨p, pw, pr, k, ws, rs, rfl, hW, wok, k1, k2, q⟩ := h
  refine ⟨_, pss_cons (ps_expr (pe_cl CN hr (by rfl) (pa_cons (pv 0) (pa_cons (pv 1) pa_nil))))
    (pss_cons (ps_asg (pe_tup (pa_cons (pe_cl CT (hr.mono (by decide)) (by rfl) (pa_cons (pv 0) pa_nil)) (pa_cons (pe_lst pa_nil) (pa_cons pe_non pa_nil))))
      (pg_tup rfl (pgs_cons (pg_name (i := 2) scGrown.nd rfl (Or.inr rfl)) (pgs_cons (pg_name (i := 3) scGrown.nd rfl (Or.inr rfl)) (pgs_cons (pg_name (i := 4) scGrown.nd rfl (Or.inl rfl)) pgs_nil)))))
    (pss_cons (ps_for PassesOwn.never rfl (pi_range1 (by rfl) T.b_range (pa_cons (pv 1) pa_nil)) (pg_name (i := 5) scGrown.nd rfl (Or.inl rfl))
      (pss_cons (ps_setLc (i := 6) (own := [("x", 7)]) (g := gName 7) (tt := tTest (tOp (rIn K true) (tVar 7) (tVar 3)))
          (te := tTup (tCons (tCall spSum [] E0 (tCons (tOp (rIxT K) (tVar 0) (tC (.int 0))) (tCons (tVar 2) (tCons (tOp rCat (tVar 3) (tLst (tCons (tVar 7) tNil))) tNil)))) (tCons (tVar 7) tNil))) rfl scGrown.nd rfl rfl (sw_true rfl rfl rfl (by decide +kernel))
          (pi_range1 (by rfl) T.b_range (pa_cons (pe_callB call_len_seq (by rfl) T.b_len PySem.boot_len (pa_cons (pv 2) pa_nil)) pa_nil)) (blkOk_by (by kernel_rfl)) (fun _ _ _ _ _ => pg_name (i := 7) scGrown.nd rfl (Or.inl rfl))
          (fun _ _ _ _ _ => pts_one (pt_cmpR op_notIn_seq (pv 7) (pv 3) (by rfl)))
          (fun _ _ _ _ _ => pe_tup (pa_cons (pe_cl CS (hr.mono (by decide)) (by rfl) (pa_cons (pe_ix ix_tup (pv 0) pe_int (fun _ _ => rfl)) (pa_cons (pv 2) (pa_cons (pe_op op_cat (pv 3) (pe_lst (pa_cons (pv 7) pa_nil))) pa_nil)))) (pa_cons (pv 7) pa_nil))))
      (pss_cons (ps_set (i := 4) scGrown.nd rfl (Or.inl rfl) (pe_callB (cr_minD rfl (hu6 hr)) (by rfl) T.b_min (by decide +kernel) (pa_cons (pv 6) pa_nil)))
      (pss_one (ps_expr (pe_bm PySem.F.plainAttrs_list PySem.F.slot_list_append PySem.F.type_list_append mt_append (pv 3) (pa_cons (pe_ix ix_tup (pv 4) pe_int (fun _ _ => rfl)) pa_nil)))))))
    (pss_one (ps_ret (pe_tup (pa_cons (pe_ix ix_tup (pv 4) pe_int (fun _ _ => rfl)) (pa_cons (pe_callTy call_tuple_of (by rfl) T.b_tuple (by decide +kernel) (pa_cons (pe_callB cr_sorted (by rfl) T.b_sorted (by decide +kernel) (pa_cons (pv 3) pa_nil)) pa_nil)) pa_nil))))))), ?_⟩
  refine q_drop (ev_cl (v := .non) (ea_cons (ev_var rfl) (ea_one (ev_var rfl))) fun H1 e Q q => ⟨p, pw, pr, k, ws, rs, rfl, hW.mono e, wok, by omega, by omega, q⟩) fun H1 e1 => ?_
  have hW1 := hW.mono e1
  have tm := wok.tabM
  have n7 := wok.n7
  refine q_asgTrip (K := K) (R := fun v H' => ∃ q, v = .ref q ∧ RowsAt H' q (table ws.length rs)) (S := fun Hm v H' => ∃ q, v = .ref q ∧ H' q = some (.lst []) ∧ Hm q = none) (fun Hm v H H' e ⟨q, h1, h2, h3⟩ => ⟨q, h1, e _ _ h2, h3⟩)
    (evN_table hW1 wok (ev_var rfl)).p (fun Hm _ H2 e2 Q' q' => el_nil H2 e2 _ fun b H3 nb e3 hb => q' _ H3 e3 ⟨b, rfl, hb, fresh_back e2 nb⟩) ev_c fun u v Hm H2 eM ⟨pT, eu, hT⟩ e2 ⟨pH, ev, hH, nH⟩ => ?_
  subst eu
  subst ev
  generalize hrows : table ws.length rs = rows at *
  have hWm := hW1.mono eM
  have tn : ((ws.length : Int)).toNat = ws.length := Int.toNat_natCast _
  refine q_forR1 (n := (k : Int)) (ea_one (ev_var rfl)) ⟨by omega, by omega⟩ (fun i σ H' => ∃ vb u5 u6, σ = [some (.ref p), some (nV k), some (.ref pT), some (.ref pH), some vb, u5, u6, none] ∧ Ex Hm H' ∧ H' pH = some (.lst ((gro ws rows i).map nV)) ∧ (i = 0 ∨ IIR (gMin ws rows (gro ws rows (i - 1))) vb H'))
    (fun H3 e3 => ⟨_, _, _, rfl, e2.trans e3, e3 _ _ hH, .inl rfl⟩) ?_ ?_
  · rintro i σ H3 hi ⟨vb, u5, u6, rfl, e3, hH3, _⟩
    have hi' : i < ws.length := by omega
    obtain ⟨g1, g2, g3⟩ := gro_ok (ws := ws) (rows := rows) i (by omega)
    generalize hg : gro ws rows i = hs at g1 g2 g3 hH3
    obtain ⟨ysT, hT3, hTr⟩ := hT.mono e3
    have key := elP_rng1 (R := IIR) (gt := gName 7) (tt := tTest (tOp (rIn K true) (tVar 7) (tVar 3))) (te := tTup (tCons (tCall spSum [] E0 (tCons (tOp (rIxT K) (tVar 0) (tC (.int 0))) (tCons (tVar 2) (tCons (tOp rCat (tVar 3) (tLst (tCons (tVar 7) tNil))) tNil)))) (tCons (tVar 7) tNil))) (vs := [7])
      (σ := [some (.ref p), some (nV k), some (.ref pT), some (.ref pH), some vb, some (.int (i : Int)), u6, none]) (H := H3) stays_ii (n := (ws.length : Int)) (ta := tCons (tCB (rLenQ K) (tCons (tVar 2) tNil)) tNil) (fun x => decide (x ∉ hs)) (fun x => (cost ws rows (hs ++ [x]), (x : Int)))
      (ea_one (ev_is (ev_lenL (ev_var rfl) hT3) (by rw [← hTr.length, tm.sq.1]))) ⟨by omega, by omega⟩ fun x H4 e4 hx => lcTurn_name rfl (et_is (et_cmp (ev_var (i := 7) rfl) (ev_var (i := 3) rfl) (rv_niL (K := K) (sq_of (e4 _ _ hH3)) rfl (flat_nat _) (x := nV x))) (by rw [inV_nat, decide_not])) fun hb => by
        have e34 := e3.trans e4
        have hW4 := hWm.mono e34
        have ec : EvP (tOp rCat (tVar 3) (tLst (tCons (tVar 7) tNil))) [some (.ref p), some (nV k), some (.ref pT), some (.ref pH), some vb, some (.int (i : Int)), u6, some (nV x)] H4 (fun v H' => ∃ ph, v = .ref ph ∧ HsAt H' ph (hs ++ [x])) :=
          (evN_cat1 (evP_ref (ev_var rfl) (e4 _ _ hH3)) (fun _ _ => ev_var rfl) (by omega)).p.imp fun v H' _ ⟨ph, h1, h2⟩ => ⟨ph, h1, .inr h2⟩
        refine ((EvU.n (eu_tup (ea_cons (ev_costP (E := E0) tm.sq (by omega) tm.wt (by simp) (by rw [List.length_append, List.length_singleton]; omega) (fun y hy => ?_) hW4.wts (hT.mono e34) (ev_ixT (i := 0) (K := K) (ev_var (i := 0) rfl) ev_c hW4.web rfl) (ev_var (i := 2) rfl) ec) (ea_one (ev_var (i := 7) (v := nV x) rfl))) (show (2 : Nat) ≤ 100000 by decide)))).p.imp fun v H5 _ ⟨t, ev, ht⟩ => ⟨t, ev, ht⟩
        rcases List.mem_append.mp hy with h | h
        · exact g3 y h
        · rw [List.mem_singleton.mp h]
          omega
    rw [tn] at key
    refine q_asgN key fun pS H4 n4 e4 hS => ?_
    have hS' : LstOf IIR (gPairs ws rows hs) pS H4 := hS
    refine q_asgP (evP_minDP (K := K) (RA := IIR) (A := fun l => l = gPairs ws rows hs) ii_dp (by decide) (fun as hA => by rw [hA]; exact gPairs_ne (by omega)) (evP_of (ev_var (i := 6) (v := .ref pS) rfl) fun H5 e5 => ⟨pS, rfl, _, rfl, by
      obtain ⟨ys, h1, h2⟩ := hS'
      exact ⟨ys, e5 _ _ h1, h2.mono stays_ii.mono e5⟩⟩)) fun v H5 e5 ⟨x, xs, hx, hv⟩ => ?_
    have hm : gMin ws rows hs = minOf x xs := gMin_is hx.symm
    rw [← hm] at hv
    obtain ⟨tb, rfl, htb⟩ := hv
    have hH5 := e5 _ _ (e4 _ _ hH3)
    refine s_app hH5 (ev_var rfl) (ev_ixT (i := 1) (ev_var (v := .ref tb) rfl) ev_c htb rfl) (by rw [List.length_map]; omega) fun H6 e6 => ?_
    refine ⟨_, _, _, rfl, Ex.mut (((e3.trans e4).trans e5).trans e6) nH, ?_, .inr ?_⟩
    · rw [upd_same, gro_succ, hg, List.map_append]
      obtain ⟨x0, _, _, hx0⟩ := gMin_at (ws := ws) (rows := rows) (hs := hs) (by omega)
      have ex : V.int (gMin ws rows hs).2 = nV (gMin ws rows hs).2.toNat := by
        rw [hx0]
        show V.int (x0 : Int) = V.int (((x0 : Int).toNat : Nat) : Int)
        rw [Int.toNat_natCast]
      rw [ex]
      rfl
    · show IIR (gMin ws rows (gro ws rows i)) _ _
      rw [hg]
      exact ⟨tb, rfl, tup_keep (e6 _ _ hH5) (e6 _ _ htb)⟩
  · rintro σ H3 ⟨vb, u5, u6, rfl, e3, hH3, hvb⟩
    have tk : ((k : Nat) : Int).toNat = k := Int.toNat_natCast _
    rw [tk] at hH3 hvb
    rcases hvb with h | ⟨tb, rfl, htb⟩
    · omega
    obtain ⟨g1, g2, g3⟩ := gro_ok (ws := ws) (rows := rows) k k2
    refine s_retN (evN_tupN2 (PB := fun b H' => H' b = some (.tup ((upOf ws.length (gro ws rows k)).map nV))) (fun _ _ _ e h => e _ _ h) (ev_ixT (K := K) (i := 0) (ev_var (v := .ref tb) rfl) ev_c htb rfl) (evN_tupSortedP (K := K) (l := gro ws rows k) (evP_ref (ev_var (i := 3) rfl) hH3) (by omega) fun ns pm pw => upOf_is g1 g3 pm pw)) fun t H4 nt e4 ⟨b, h1, h2⟩ => q t H4 (e1.trans (eM.trans (e3.trans e4))) ⟨b, h1, h2⟩
end
end NH
namespace NH
open PySem L2 Evl
/-! ### the law's row of draws: a list that changes, all else stays -/
structure RowAt (K : PySem.W.Frag) (pr a : Addr) (ns : List Int) (H : Hp) : Prop where
  sq : SqL K H a (ns.map V.int)
  row : ∃ (i : Nat) (s c : Int), H pr = some (.lst [.ref a, nV i, .int s, .int c])
  len : ns.length ≤ 63
structure G (K : PySem.W.Frag) (pr a : Addr) (ns : List Int) (H H' : Hp) : Prop where
  keep : ∀ b o, b ≠ pr → H b = some o → H' b = some o
  row : RowAt K pr a ns H'
section
variable {K : PySem.W.Frag} {pr a : Addr} {ns : List Int} {H H1 H2 H3 : Hp}
theorem RowAt.ne (h : RowAt K pr a ns H) {xs : List V} (hx : Rd H pr (.lst (ns.map V.int))) : False := by
  obtain ⟨i, s, c, hr⟩ := h.row
  rcases hx with q | ⟨o, q⟩
  · rw [hr] at q
    injection q with q
    injection q with q
    cases ns with
    | nil => cases q
    | cons x t => cases q
  · rw [hr] at q
    injection q with q
    cases q
theorem RowAt.ex (h : RowAt K pr a ns H) (e : Ex H H1) : RowAt K pr a ns H1 := by
  obtain ⟨i, s, c, hr⟩ := h.row
  exact ⟨ex_l e h.sq, ⟨i, s, c, e _ _ hr⟩, h.len⟩
theorem RowAt.upd (h : RowAt K pr a ns H) (i : Nat) (s c : Int) : RowAt K pr a ns (upd H pr (.lst [.ref a, nV i, .int s, .int c])) := by
  refine ⟨?_, ⟨i, s, c, upd_same⟩, h.len⟩
  rcases h.sq with q | q
  · have ne : a ≠ pr := fun e => by
      subst e
      exact h.ne (xs := []) q
    left
    rcases q with q | ⟨o, q⟩
    · exact .inl (by rw [upd_ne ne]; exact q)
    · exact .inr ⟨o, by rw [upd_ne ne]; exact q⟩
  · exact .inr q
theorem G.refl (h : RowAt K pr a ns H) : G K pr a ns H H := ⟨fun _ _ _ q => q, h⟩
theorem G.ex (h : RowAt K pr a ns H) (e : Ex H H1) : G K pr a ns H H1 := ⟨fun b o _ q => e b o q, h.ex e⟩
theorem G.trans (g : G K pr a ns H H1) (k : G K pr a ns H1 H2) : G K pr a ns H H2 := ⟨fun b o n q => k.keep b o n (g.keep b o n q), k.row⟩
theorem G.grow (g : G K pr a ns H H1) (e : Ex H1 H2) : G K pr a ns H H2 := g.trans (.ex g.row e)
theorem G.set (g : G K pr a ns H H1) (i : Nat) (s c : Int) : G K pr a ns H (upd H1 pr (.lst [.ref a, nV i, .int s, .int c])) :=
  ⟨fun b o n q => by rw [upd_ne n]; exact g.keep b o n q, g.row.upd i s c⟩
theorem G.tup (g : G K pr a ns H H1) (h : RowAt K pr a ns H) {t : Addr} {xs : List V} (ht : H t = some (.tup xs)) : H1 t = some (.tup xs) := by
  obtain ⟨i, s, c, hr⟩ := h.row
  exact g.keep _ _ (fun e => by subst e; rw [hr] at ht; cases ht) ht
theorem G.fresh (g : G K pr a ns H H1) {p : Addr} (np : H1 p = none) : H p = none := by
  obtain ⟨i, s, c, hr⟩ := g.row.row
  have ne : p ≠ pr := fun e => by subst e; rw [hr] at np; cases np
  cases e : H p with
  | none => rfl
  | some o =>
    rw [g.keep p o ne e] at np
    cases np
theorem RowAt.fresh (h : RowAt K pr a ns H) {p : Addr} (np : H p = none) : p ≠ pr := fun e => by
  obtain ⟨i, s, c, hr⟩ := h.row
  subst e
  rw [hr] at np
  cases np
/-- an object that is not the row, new since H, changes -/
theorem G.mut (g : G K pr a ns H H1) {p : Addr} {o : HO} (hr : RowAt K pr a ns H) (np : H p = none) : G K pr a ns H (L2.upd H1 p o) := by
  have ne := hr.fresh np
  refine ⟨fun b u n q => ?_, ?_, ?_, hr.len⟩
  · have : b ≠ p := fun e => by subst e; rw [np] at q; cases q
    rw [upd_ne this]
    exact g.keep b u n q
  · rcases hr.sq with q | q
    · have na : a ≠ pr := fun e => by
        subst e
        exact hr.ne (xs := []) q
      left
      rcases q with q | ⟨o2, q⟩
      · have : a ≠ p := fun e => by subst e; rw [np] at q; cases q
        exact .inl (by rw [upd_ne this]; exact g.keep _ _ na q)
      · have : a ≠ p := fun e => by subst e; rw [np] at q; cases q
        exact .inr ⟨o2, by rw [upd_ne this]; exact g.keep _ _ na q⟩
    · exact .inr q
  · obtain ⟨i, s, c, hr'⟩ := g.row.row
    exact ⟨i, s, c, by rw [upd_ne ne.symm]; exact hr'⟩
end
section
variable {P : Program} {w : World} {K : PySem.W.Frag} {mg : Str → Option Value} {base : Heap} {f : Addr} {fd : FuncData}
def spTaken (K : PySem.W.Frag) : Sp := fun vs H Q _ => ∃ (pr a : Addr) (ns : List Int) (m : Nat), vs = [.ref pr, nV m] ∧ RowAt K pr a ns H ∧ 1 ≤ m ∧ m < 1073741824 ∧ ∀ (r : Nat) H', r < m → G K pr a ns H H' → Q (nV r) H'
abbrev rInt1 : List V → Hp → VK → Prop := fun xs H Q => (∃ i, xs = [V.int i] ∧ Q (.int i) H) ∨ ∃ k, xs = [V.bl k] ∧ Q (.int (if k then 1 else 0)) H
theorem ev_int1 {σ : L2.St} {H : Hp} {te : TE} {i : Int} (h : Ev te σ H (.int i)) : Ev (tCB rInt1 (tCons te tNil)) σ H (.int i) := fun H1 e Q q => h H1 e _ fun H2 e2 => .inl ⟨i, rfl, q H2 e2⟩
theorem ev_lenS {σ : L2.St} {H : Hp} {te : TE} {p : Addr} {xs : List V} (h : Ev te σ H (.ref p)) (hx : SqL K H p xs) : Ev (tCB (rLenQ K) (tCons te tNil)) σ H (.int (xs.length : Int)) := fun H1 e Q q =>
  h H1 e _ fun H2 e2 => ⟨p, xs, rfl, .inl (ex_l (e.trans e2) hx), q H2 e2⟩
theorem scTaken : FnScope ["_law_row", "_law_many", "_law_found", "_law_cell"] ["_law_row", "_law_many"] (defScope s_law_taken) := ⟨rfl, rfl, rfl, by decide +kernel, rfl, by decide +kernel, by decide +kernel⟩
theorem s_setRow {σ : L2.St} {H : Hp} {D : Ends} {te ta tj : TE} {pr a : Addr} {ns : List Int} {i i' : Nat} {s c s' c' : Int} {j : Nat} {v : V} (R : RowAt K pr a ns H) (hrow : H pr = some (.lst [.ref a, nV i, .int s, .int c])) (h : Ev te σ H v) (ho : Ev ta σ H (.ref pr)) (hj : Ev tj σ H (.int (j : Int))) (j4 : j < 4)
    (e : [V.ref a, nV i, .int s, .int c].set j v = [.ref a, nV i', .int s', .int c']) (k : ∀ H1, H1 pr = some (.lst [.ref a, nV i', .int s', .int c']) → G K pr a ns H H1 → D.nx σ H1) : tAsg te (gSub ta tj rSetL) D σ H :=
  s_setL hrow h ho hj j4 fun H1 e1 => by
    rw [e]
    exact k _ upd_same ((G.ex R e1).set i' s' c')
theorem q_setRow {σ : L2.St} {H : Hp} {D : Ends} {tz : TS} {te ta tj : TE} {pr a : Addr} {ns : List Int} {i i' : Nat} {s c s' c' : Int} {j : Nat} {v : V} (R : RowAt K pr a ns H) (hrow : H pr = some (.lst [.ref a, nV i, .int s, .int c])) (h : Ev te σ H v) (ho : Ev ta σ H (.ref pr)) (hj : Ev tj σ H (.int (j : Int))) (j4 : j < 4)
    (e : [V.ref a, nV i, .int s, .int c].set j v = [.ref a, nV i', .int s', .int c']) (k : ∀ H1, H1 pr = some (.lst [.ref a, nV i', .int s', .int c']) → G K pr a ns H H1 → tz D σ H1) : tSeq (tAsg te (gSub ta tj rSetL)) tz D σ H := s_setRow (D := { D with nx := tz D }) R hrow h ho hj j4 e k
theorem emod_nat {x : Int} {m : Nat} (h : 1 ≤ m) : ∃ r : Nat, r < m ∧ x % (m : Int) = (r : Int) := by
  have h1 := Int.emod_nonneg x (show (m : Int) ≠ 0 by omega)
  have h2 := Int.emod_lt_of_pos x (show (0 : Int) < (m : Int) by omega)
  exact ⟨(x % (m : Int)).toNat, by omega, by omega⟩
theorem ok_taken (T : Txt K mg) (F : Fun K "_law_taken" "_law_taken" s_law_taken f fd) : FnOk P w K mg base CX0 1 f fd ["_law_row", "_law_many"] (spTaken K) := by
  refine F.ok scTaken (fun vs H Q E h => ?_) (fun cdv A outer s H vs Q E hr h => ?_)
  · obtain ⟨_, _, _, _, rfl, _⟩ := h
    rfl
  obtain ⟨pr, a, ns, m, rfl, R, m1, m2, q⟩ := h
  refine ⟨_, pss_cons (ps_if (pt_cmpR op_gt (pe_ix ix_list (pv 0) pe_int (fun _ _ => rfl)) pe_int (nomark _))
      (pss_cons (ps_set (i := 2) scTaken.nd rfl (Or.inl rfl) (pe_op op_mod (pe_callTy call_int1 (by rfl) T.b_int (by decide +kernel) (pa_cons (pe_ix ix_list (pv 0) pe_int (fun _ _ => rfl)) pa_nil)) (pv 1)))
      (pss_cons (ps_asg (pe_op op_fdiv (pe_ix ix_list (pv 0) pe_int (fun _ _ => rfl)) (pv 1)) (pg_sub (pv 0) pe_int set_list))
      (pss_one (ps_ret (pv 2))))) pss_nil)
    (pss_cons (ps_asg (pe_op op_add (pe_ix ix_list (pv 0) pe_int (fun _ _ => rfl)) pe_int) (pg_sub (pv 0) pe_int set_list))
    (pss_cons (ps_if (pt_cmpR op_gt (pe_ix ix_list (pv 0) pe_int (fun _ _ => rfl)) (pe_callB call_len_seq (by rfl) T.b_len PySem.boot_len (pa_cons (pe_ix ix_list (pv 0) pe_int (fun _ _ => rfl)) pa_nil)) (nomark _))
      (pss_cons (ps_asg (pe_op op_mod (pe_callTy call_int1 (by rfl) T.b_int (by decide +kernel) (pa_cons (pe_op op_add (pe_op op_mul (pe_ix ix_list (pv 0) pe_int (fun _ _ => rfl)) pe_int) pe_int) pa_nil)) pe_int) (pg_sub (pv 0) pe_int set_list))
      (pss_one (ps_ret (pe_op op_mod (pe_callTy call_int1 (by rfl) T.b_int (by decide +kernel) (pa_cons (pe_op op_fdiv (pe_ix ix_list (pv 0) pe_int (fun _ _ => rfl)) pe_int) pa_nil)) (pv 1))))) pss_nil)
    (pss_cons (ps_set (i := 3) scTaken.nd rfl (Or.inl rfl) (pe_ix ix_list (pe_ix ix_list (pv 0) pe_int (fun _ _ => rfl)) (pe_op op_sub (pe_ix ix_list (pv 0) pe_int (fun _ _ => rfl)) pe_int) (fun _ _ => rfl)))
    (pss_cons (ps_asg (pe_op op_mod (pe_callTy call_int1 (by rfl) T.b_int (by decide +kernel) (pa_cons (pe_op op_add (pe_op op_add (pe_op op_mul (pe_ix ix_list (pv 0) pe_int (fun _ _ => rfl)) pe_int) (pv 3)) pe_int) pa_nil)) pe_int) (pg_sub (pv 0) pe_int set_list))
    (pss_cons (ps_if (pt_cmpR op_ge (pv 3) (pe_op op_pow pe_int pe_int) (nomark _)) (pss_one (ps_asg (pe_op op_fdiv (pv 3) (pv 1)) (pg_sub (pv 0) pe_int set_list))) pss_nil)
    (pss_one (ps_ret (pe_op op_mod (pe_callTy call_int1 (by rfl) T.b_int (by decide +kernel) (pa_cons (pv 3) pa_nil)) (pv 1))))))))), ?_⟩
  have mp : (0 : Int) < (m : Int) := by omega
  have cd : CDiv 0 (m : Int) := ⟨mp, by omega⟩
  obtain ⟨i, s, c, hrow⟩ := R.row
  refine q_when (et_cmp (ev_ixL (i := 3) (K := K) (ev_var rfl) ev_c hrow rfl) ev_c (rv_I0 (g := fun i j => .bl (decide (j < i))))) (fun _ H1 e1 => ?_) (fun _ H1 e1 => ?_)
  · have h1 := e1 _ _ hrow
    obtain ⟨r, hr1, hr2⟩ := emod_nat (x := c) m1
    refine q_asg (ev_is (w := nV r) (ev_op (ev_int1 (ev_ixL (i := 3) (K := K) (ev_var rfl) ev_c h1 rfl)) (ev_var rfl) (rv_I mp)) (by rw [hr2])) fun H2 e2 => ?_
    have h2 := e2 _ _ h1
    refine q_setRow (K := K) (j := 3) (i' := i) (s' := s) (R.ex (e1.trans e2)) h2 (ev_op (ev_ixL (i := 3) (K := K) (ev_var rfl) ev_c h2 rfl) (ev_var rfl) (rv_I (show CDiv c (m : Int) from ⟨mp, by omega⟩))) (ev_var rfl) ev_c (by decide) rfl fun H3 h3 g3 => ?_
    exact s_ret (ev_var rfl) fun H4 e4 => q r H4 hr1 (((G.ex R (e1.trans e2)).trans g3).grow e4)
  · have h1 := e1 _ _ hrow
    have en : V.int ((i : Int) + 1) = nV (i + 1) := by
      show V.int _ = V.int _
      rw [Int.natCast_add]
      rfl
    refine q_setRow (K := K) (j := 1) (i' := i + 1) (s' := s) (c' := c) (R.ex e1) h1 (ev_op (ev_ixL (i := 1) (K := K) (ev_var rfl) ev_c h1 rfl) ev_c (rv_I0 (g := fun i j => .int (i + j)))) (ev_var rfl) ev_c (by decide) (by rw [en]; rfl) fun H2 h2 g2 => ?_
    have g02 := (G.ex R e1).trans g2
    have R2 := g02.row
    refine q_when (et_cmp (ev_ixL (i := 1) (K := K) (ev_var rfl) ev_c h2 rfl) (ev_lenS (K := K) (ev_ixL (i := 0) (K := K) (ev_var rfl) ev_c h2 rfl) R2.sq) (rv_I0 (g := fun i j => .bl (decide (j < i))))) (fun _ H3 e3 => ?_) (fun hb H3 e3 => ?_)
    · have h3 := e3 _ _ h2
      refine q_setRow (K := K) (j := 2) (i' := i + 1) (c' := c) (R2.ex e3) h3 (ev_op (ev_int1 (ev_op (ev_op (ev_ixL (i := 2) (K := K) (ev_var rfl) ev_c h3 rfl) ev_c (rv_I (.inr ⟨by decide, by decide⟩))) ev_c (rv_I0 (g := fun i j => .int (i + j))))) ev_c (rv_I (by decide))) (ev_var rfl) ev_c (by decide) rfl fun H4 h4 g4 => ?_
      refine s_ret (ev_op (ev_int1 (ev_op (ev_ixL (i := 2) (K := K) (ev_var rfl) ev_c h4 rfl) ev_c (rv_I (show CDiv _ 7 from ⟨by decide, by decide⟩)))) (ev_var rfl) (rv_I mp)) fun H5 e5 => ?_
      obtain ⟨r, hr1, hr2⟩ := emod_nat (x := (s * 48271 + 11) % 2147483647 / 7) m1
      rw [hr2]
      exact q r H5 hr1 (((g02.grow e3).trans g4).grow e5)
    · have h3 := e3 _ _ h2
      have hi : i < ns.length := by
        have z := of_decide_eq_false hb
        rw [List.length_map] at z
        omega
      have hx : (ns.map V.int)[i]? = some (.int (ns.getD i 0)) := ix_int hi
      generalize ns.getD i 0 = x at hx
      refine q_asg (ev_op (ev_ixL (i := 0) (K := K) (ev_var rfl) ev_c h3 rfl) (ev_is (w := .int (i : Int)) (ev_op (ev_ixL (i := 1) (K := K) (ev_var rfl) ev_c h3 rfl) ev_c (rv_I0 (g := fun i j => .int (i - j)))) (by
        rw [Int.natCast_add]
        show V.int ((i : Int) + 1 - 1) = _
        rw [Int.add_sub_cancel])) (rv_ixL (R2.ex e3).sq (atI_nat hx))) fun H4 e4 => ?_
      have h4 := e4 _ _ h3
      have g04 := g02.grow (e3.trans e4)
      refine q_setRow (K := K) (j := 2) (i' := i + 1) (c' := c) g04.row h4 (ev_op (ev_int1 (ev_op (ev_op (ev_op (ev_ixL (i := 2) (K := K) (ev_var rfl) ev_c h4 rfl) ev_c (rv_I (.inr ⟨by decide, by decide⟩))) (ev_var rfl) (rv_I0 (g := fun i j => .int (i + j)))) ev_c (rv_I0 (g := fun i j => .int (i + j))))) ev_c (rv_I (by decide))) (ev_var rfl) ev_c (by decide) rfl fun H5 h5 g5 => ?_
      have g05 := g04.trans g5
      obtain ⟨r, hr1, hr2⟩ := emod_nat (x := x) m1
      have fin : ∀ H6, G K pr a ns H H6 → (tRet (tOp (rI (fun _ j => 0 < j) fun i j => .int (i % j)) (tCB rInt1 (tCons (tVar 3) tNil)) (tVar 1))) { nx := fun _ H' => Q .non H', rt := Q } [some (.ref pr), some (nV m), none, some (.int x)] H6 := fun H6 g6 =>
        s_ret (ev_is (w := nV r) (ev_op (ev_int1 (ev_var rfl)) (ev_var rfl) (rv_I mp)) (by rw [hr2])) fun H7 e7 => q r H7 hr1 (g6.grow e7)
      refine q_when (et_cmp (ev_var rfl) (ev_op ev_c ev_c (rv_I ⟨by decide, by decide, by decide⟩)) (rv_I0 (g := fun i j => .bl (decide (j ≤ i))))) (fun _ H6 e6 => ?_) (fun _ H6 e6 => ?_)
      · have h6 := e6 _ _ h5
        refine s_setRow (K := K) (j := 3) (i' := i + 1) (s' := (s * 48271 + x + 11) % 2147483647) (g05.grow e6).row h6 (ev_op (ev_var rfl) (ev_var rfl) (rv_I (show CDiv x (m : Int) from ⟨mp, by omega⟩))) (ev_var rfl) ev_c (by decide) rfl fun H7 h7 g7 => ?_
        exact fin H7 ((g05.grow e6).trans g7)
      · exact fin H6 (g05.grow e6)
end
end NH
namespace NH
open PySem L2 Evl
/-! ### readings that draw: all but the row stays -/
section
variable {K : PySem.W.Frag} {pr a : Addr} {ns : List Int} {σ : L2.St} {H : Hp}
def EvD (K : PySem.W.Frag) (pr a : Addr) (ns : List Int) (te : TE) (σ : L2.St) (H : Hp) (P : V → Hp → Prop) : Prop := ∀ H1, G K pr a ns H H1 → ∀ Q : VK, (∀ v H2, G K pr a ns H1 H2 → P v H2 → Q v H2) → te σ H1 Q
def EvDA (K : PySem.W.Frag) (pr a : Addr) (ns : List Int) (ta : TA) (σ : L2.St) (H : Hp) (P : List V → Hp → Prop) : Prop := ∀ H1, G K pr a ns H H1 → ∀ Q : List V → Hp → Prop, (∀ v H2, G K pr a ns H1 H2 → P v H2 → Q v H2) → ta σ H1 Q
/-- a natural number of which N is told -/
abbrev EvDn (K : PySem.W.Frag) (pr a : Addr) (ns : List Int) (te : TE) (σ : L2.St) (H : Hp) (N : Nat → Prop) : Prop := EvD K pr a ns te σ H fun v _ => ∃ x, v = nV x ∧ N x
abbrev EvDl (K : PySem.W.Frag) (pr a : Addr) (ns : List Int) (ta : TA) (σ : L2.St) (H : Hp) (N : Nat → Prop) (l : Nat) : Prop := EvDA K pr a ns ta σ H fun vs _ => ∃ xs : List Nat, vs = xs.map nV ∧ xs.length = l ∧ ∀ x ∈ xs, N x
theorem EvD.imp {te : TE} {P R : V → Hp → Prop} (h : EvD K pr a ns te σ H P) (k : ∀ v H', G K pr a ns H H' → P v H' → R v H') : EvD K pr a ns te σ H R := fun H1 g Q q => h H1 g Q fun v H2 g2 hp => q v H2 g2 (k v H2 (g.trans g2) hp)
theorem EvD.mono {te : TE} {P : V → Hp → Prop} {H1 : Hp} (h : EvD K pr a ns te σ H P) (g : G K pr a ns H H1) : EvD K pr a ns te σ H1 P := fun H2 g2 Q q => h H2 (g.trans g2) Q q
theorem evd_p {te : TE} {P : V → Hp → Prop} (h : ∀ H1, G K pr a ns H H1 → EvP te σ H1 P) : EvD K pr a ns te σ H P := fun H1 g Q q => h H1 g H1 (Ex.refl H1) Q fun v H2 e2 hp => q v H2 (.ex g.row e2) hp
theorem evdn_of {te : TE} {N : Nat → Prop} {x : Nat} (h : ∀ H1, G K pr a ns H H1 → Ev te σ H1 (nV x)) (hN : N x) : EvDn K pr a ns te σ H N := evd_p fun H1 g => (ev_p (h H1 g)).imp fun v _ _ e => ⟨x, e, hN⟩
theorem eda_nil {N : Nat → Prop} : EvDl K pr a ns tNil σ H N 0 := fun H1 g Q q => q [] H1 (.refl g.row) ⟨[], rfl, rfl, fun x h => absurd h List.not_mem_nil⟩
theorem eda_cons {te : TE} {tr : TA} {N : Nat → Prop} {l : Nat} (h : EvDn K pr a ns te σ H N) (hr : EvDl K pr a ns tr σ H N l) : EvDl K pr a ns (tCons te tr) σ H N (l + 1) := fun H1 g Q q =>
  h H1 g _ fun v H2 g2 ⟨x, ev, hx⟩ => hr H2 (g.trans g2) _ fun vs H3 g3 ⟨xs, evs, hl, hxs⟩ => q _ H3 (g2.trans g3) ⟨x :: xs, by rw [ev, evs]; rfl, by rw [List.length_cons, hl], fun y hy => by
    rcases List.mem_cons.mp hy with h | h
    · rw [h]; exact hx
    · exact hxs y h⟩
/-- a list display of drawn numbers -/
theorem evd_lst {ta : TA} {N : Nat → Prop} {l : Nat} (h : EvDl K pr a ns ta σ H N l) (hl : l ≤ 1000) : EvD K pr a ns (tLst ta) σ H (fun v H' => ∃ (p : Addr) (xs : List Nat), v = .ref p ∧ H' p = some (.lst (xs.map nV)) ∧ xs.length = l ∧ ∀ x ∈ xs, N x) := fun H1 g Q q =>
  h H1 g _ fun vs H2 g2 ⟨xs, ev, el, hx⟩ => ⟨sz_of (by rw [ev, List.length_map]; omega), fun p np => q _ _ (g2.grow (Ex.new np)) ⟨p, xs, rfl, by rw [upd_same, ev], el, hx⟩⟩
theorem evdn_cadd {te : TE} {N : Nat → Prop} {k : Nat} (h : EvDn K pr a ns te σ H N) : EvDn K pr a ns (tOp (rI0 fun i j => .int (i + j)) (tC (.int (k : Int))) te) σ H (fun y => ∃ x, y = k + x ∧ N x) := fun H1 g Q q => by
  refine h H1 g _ fun v H2 g2 ⟨x, ev, hx⟩ => ?_
  subst ev
  exact ⟨_, _, rfl, rfl, q _ H2 g2 ⟨k + x, by rw [nV, Int.natCast_add], x, rfl, hx⟩⟩
/-- two arguments: one that stands, one that is drawn -/
theorem evd_taken {tr tm : TE} {M : Nat} (hr : ∀ H1, G K pr a ns H H1 → Ev tr σ H1 (.ref pr)) (hm : EvDn K pr a ns tm σ H fun m => 1 ≤ m ∧ m ≤ M) (hM : M < 1073741824) : EvDn K pr a ns (tCall (spTaken K) [] E0 (tCons tr (tCons tm tNil))) σ H (fun r => r < M) := fun H1 g Q q => by
  refine hr H1 g H1 (Ex.refl H1) _ fun H2 e2 => hm H2 (g.grow e2) _ fun v H3 g3 ⟨m, ev, m1, m2⟩ => ?_
  subst ev
  exact ⟨pr, a, ns, m, rfl, g3.row, m1, by omega, fun r H4 hr g4 => q _ H4 (((G.ex g.row e2).trans g3).trans g4) ⟨r, rfl, by omega⟩⟩
theorem q_asgD {te : TE} {tz : TS} {D : Ends} {P : V → Hp → Prop} {i : Nat} (R : RowAt K pr a ns H) (h : EvD K pr a ns te σ H P) (k : ∀ v H1, G K pr a ns H H1 → P v H1 → tz D (σ.set i (some v)) H1) : tSeq (tAsg te (gName i)) tz D σ H := by
  show te σ H fun v H1 => gName i v σ H1 (tz D)
  exact h H (.refl R) _ fun v H1 g hp => k v H1 g hp
theorem s_asgD {te : TE} {D : Ends} {P : V → Hp → Prop} {i : Nat} (R : RowAt K pr a ns H) (h : EvD K pr a ns te σ H P) (k : ∀ v H1, G K pr a ns H H1 → P v H1 → D.nx (σ.set i (some v)) H1) : tAsg te (gName i) D σ H := h H (.refl R) _ fun v H1 g hp => k v H1 g hp
theorem s_retD {te : TE} {D : Ends} {P : V → Hp → Prop} (R : RowAt K pr a ns H) (h : EvD K pr a ns te σ H P) (k : ∀ v H1, G K pr a ns H H1 → P v H1 → D.rt v H1) : tRet te D σ H := h H (.refl R) _ fun v H1 g hp => k v H1 g hp
end
/-! ### pick and order -/
section
variable {P : Program} {w : World} {K : PySem.W.Frag} {mg : Str → Option Value} {base : Heap} {f : Addr} {fd : FuncData}
def spPick (K : PySem.W.Frag) : Sp := fun vs H Q _ => ∃ (pr a pt : Addr) (ns : List Int) (xs : List Nat), vs = [.ref pr, .ref pt] ∧ RowAt K pr a ns H ∧ H pt = some (.lst (xs.map nV)) ∧ 1 ≤ xs.length ∧ xs.length ≤ 1000 ∧ ∀ x H', x ∈ xs → G K pr a ns H H' → Q (nV x) H'
theorem scPick : FnScope ["_law_row", "_law_things"] ["_law_row", "_law_things"] (defScope s_law_pick) := ⟨rfl, rfl, rfl, by decide +kernel, rfl, by decide +kernel, by decide +kernel⟩
theorem RowAt.neL {pr a : Addr} {ns : List Int} {H : Hp} (R : RowAt K pr a ns H) {pt : Addr} {xs : List Nat} (h : H pt = some (.lst (xs.map nV))) : pt ≠ pr := fun e => by
  subst e
  obtain ⟨i, s, c, hr⟩ := R.row
  rw [hr] at h
  injection h with h
  injection h with h
  cases xs with
  | nil => cases h
  | cons x t => cases h
theorem ok_pick (T : Txt K mg) (C : Cl P w K mg base "_law_taken" 1 ["_law_row", "_law_many"] (spTaken K)) (F : Fun K "_law_pick" "_law_pick" s_law_pick f fd) : FnOk P w K mg base CX0 2 f fd ["_law_row", "_law_things"] (spPick K) := by
  refine F.ok scPick (fun vs H Q E h => ?_) (fun cdv A outer s H vs Q E hr h => ?_)
  · obtain ⟨_, _, _, _, _, rfl, _⟩ := h
    rfl
  obtain ⟨pr, a, pt, ns, xs, rfl, R, hT, l1, l2, q⟩ := h
  refine ⟨_, pss_one (ps_ret (pe_ix ix_list (pv 1) (pe_cl C hr (by rfl) (pa_cons (pv 0) (pa_cons (pe_callB call_len_seq (by rfl) T.b_len PySem.boot_len (pa_cons (pv 1) pa_nil)) pa_nil))) (fun _ _ => rfl))), ?_⟩
  have hne := R.neL hT
  have lx : ((xs.map nV).length : Int) = ((xs.length : Nat) : Int) := by rw [List.length_map]
  show tVar 1 _ H fun x H1 => tCall (spTaken K) [] E0 (tCons (tVar 0) (tCons (tCB (rLenQ K) (tCons (tVar 1) tNil)) tNil)) _ H1 fun y H2 => rIxL K x y H2 Q
  refine ev_var (i := 1) (v := .ref pt) rfl H (Ex.refl H) _ fun H1 e1 => (evd_taken (K := K) (tr := tVar 0) (tm := tCB (rLenQ K) (tCons (tVar 1) tNil)) (M := xs.length) (fun H2 _ => ev_var rfl) (evdn_of (x := xs.length) (fun H2 g2 => ev_is (ev_lenL (ev_var rfl) (g2.keep _ _ hne (e1 _ _ hT))) (by rw [lx])) ⟨l1, Nat.le_refl _⟩) (by omega)) H1 (.refl (R.ex e1)) _ fun v H2 g2 ⟨r, ev, hr⟩ => ?_
  subst ev
  have hx : xs[r]? = some xs[r] := List.getElem?_eq_getElem hr
  exact ⟨pt, _, _, _, rfl, rfl, sq_of (g2.keep _ _ hne (e1 _ _ hT)), atI_nat (ix_nat hx), q xs[r] H2 (List.getElem_mem hr) ((G.ex R e1).trans g2)⟩
theorem evd_pick {pr a : Addr} {ns : List Int} {σ : L2.St} {H : Hp} {tr tl : TE} {N : Nat → Prop} {l : Nat} (hr : ∀ H1, G K pr a ns H H1 → Ev tr σ H1 (.ref pr)) (hl : EvD K pr a ns tl σ H (fun v H' => ∃ (p : Addr) (xs : List Nat), v = .ref p ∧ H' p = some (.lst (xs.map nV)) ∧ xs.length = l ∧ ∀ x ∈ xs, N x)) (l1 : 1 ≤ l) (l2 : l ≤ 1000) :
    EvDn K pr a ns (tCall (spPick K) [] E0 (tCons tr (tCons tl tNil))) σ H N := fun H1 g Q q => by
  refine hr H1 g H1 (Ex.refl H1) _ fun H2 e2 => hl H2 (g.grow e2) _ fun v H3 g3 ⟨p, xs, ev, hp, el, hx⟩ => ?_
  subst ev
  exact ⟨pr, a, p, ns, xs, rfl, g3.row, hp, by omega, by omega, fun x H4 hm g4 => q _ H4 (((G.ex g.row e2).trans g3).trans g4) ⟨x, rfl, hx x hm⟩⟩
theorem cut_to (L : List Nat) (r : Nat) : cutV (L.map nV) none (some (r : Int)) = (L.take r).map nV := by
  unfold cutV
  rw [HT.sIx_none, HT.sIx_nat, List.drop_zero, Nat.sub_zero, ← List.take_eq_take_min, List.map_take]
theorem cut_from (L : List Nat) (r : Nat) : cutV (L.map nV) (some (r : Int)) none = (L.drop r).map nV := by
  unfold cutV
  rw [HT.sIx_none, HT.sIx_nat, List.map_drop]
  have e : List.drop (min r (L.map nV).length) (L.map nV) = List.drop r (L.map nV) := by
    by_cases h : r ≤ (L.map nV).length
    · rw [Nat.min_eq_left h]
    · rw [Nat.min_eq_right (by omega), List.drop_of_length_le (Nat.le_refl _), List.drop_of_length_le (by omega)]
  rw [e]
  exact List.take_of_length_le (by rw [List.length_drop]; omega)
theorem el_cat {σ : L2.St} {H : Hp} {ta tb : TE} {xs ys : List V} (h1 : EvL ta σ H xs) (h2 : EvL tb σ H ys) (hl : xs.length + ys.length ≤ 100000) : EvL (tOp rCat ta tb) σ H (xs ++ ys) := fun H1 e Q q =>
  h1 H1 e _ fun p H2 np e2 hp => h2 H2 (e.trans e2) _ fun b H3 nb e3 hb => ⟨p, b, _, _, rfl, rfl, e3 _ _ hp, hb, sz_of hl, fun c nc => q c _ (fresh_back (e2.trans e3) nc) ((e2.trans e3).trans (Ex.new nc)) upd_same⟩
theorem q_parLL {σ : L2.St} {H : Hp} {D : Ends} {tz : TS} {ta tb : TE} {xs ys : List V} {i j : Nat} (h1 : EvL ta σ H xs) (h2 : EvL tb σ H ys) (k : ∀ p b H1 H2, H p = none → Ex H H1 → H1 p = some (.lst xs) → H1 b = none → Ex H1 H2 → H2 b = some (.lst ys) → tz D ((σ.set i (some (.ref p))).set j (some (.ref b))) H2) :
    tSeq (tPar i j (tCons ta (tCons tb tNil))) tz D σ H := by
  show tCons ta (tCons tb tNil) σ H fun vs H1 => ∃ v w, vs = [v, w] ∧ tz D ((σ.set i (some v)).set j (some w)) H1
  exact h1 H (Ex.refl H) _ fun p H1 np e1 hp => h2 H1 e1 _ fun b H2 nb e2 hb => ⟨_, _, rfl, k p b H1 H2 np e1 hp nb e2 hb⟩
def spOrder (K : PySem.W.Frag) : Sp := fun vs H Q _ => ∃ (pr a : Addr) (ns : List Int) (m : Nat), vs = [.ref pr, nV m] ∧ RowAt K pr a ns H ∧ m ≤ 1000 ∧ ∀ p (l : List Nat) H', H p = none → G K pr a ns H H' → H' p = some (.lst (l.map nV)) → l.Perm (List.range m) → Q (.ref p) H'
theorem scOrder : FnScope ["_law_row", "_law_many", "_law_left", "_law_found", "_law_turn", "_law_at"] ["_law_row", "_law_many"] (defScope s_law_order) := ⟨rfl, rfl, rfl, by decide +kernel, rfl, by decide +kernel, by decide +kernel⟩
theorem ok_order (T : Txt K mg) (C : Cl P w K mg base "_law_taken" 1 ["_law_row", "_law_many"] (spTaken K)) (F : Fun K "_law_order" "_law_order" s_law_order f fd) : FnOk P w K mg base CX0 2 f fd ["_law_row", "_law_many"] (spOrder K) := by
  refine F.ok scOrder (fun vs H Q E h => ?_) (fun cdv A outer s H vs Q E hr h => ?_)
  · obtain ⟨_, _, _, _, rfl, _⟩ := h
    rfl
  obtain ⟨pr, a, ns, m, rfl, R, hm, q⟩ := h
  refine ⟨_, pss_cons (ps_par (i := 2) (j := 3) rfl scOrder.nd rfl rfl (by decide) rfl rfl (pa_cons (pe_listRg rfl (by rfl) T.b_list (prg_1 (by rfl) T.b_range (pv 1))) (pa_cons (pe_lst pa_nil) pa_nil)) (by rfl))
    (pss_cons (ps_for PassesOwn.never rfl (pi_range1 (by rfl) T.b_range (pa_cons (pv 1) pa_nil)) (pg_name (i := 4) scOrder.nd rfl (Or.inl rfl))
      (pss_cons (ps_set (i := 5) scOrder.nd rfl (Or.inl rfl) (pe_cl C hr (by rfl) (pa_cons (pv 0) (pa_cons (pe_callB call_len_seq (by rfl) T.b_len PySem.boot_len (pa_cons (pv 2) pa_nil)) pa_nil))))
      (pss_cons (ps_expr (pe_bm PySem.F.plainAttrs_list PySem.F.slot_list_append PySem.F.type_list_append mt_append (pv 3) (pa_cons (pe_ix ix_list (pv 2) (pv 5) (fun _ _ => rfl)) pa_nil)))
      (pss_one (ps_set (i := 2) scOrder.nd rfl (Or.inl rfl) (pe_op op_cat (pe_slice sl_list (pv 2) po_none (po_some (pv 5))) (pe_slice sl_list (pv 2) (po_some (pe_op op_add (pv 5) pe_int)) po_none)))))))
    (pss_one (ps_ret (pv 3)))), ?_⟩
  refine q_parLL (el_listRg (n := m) (ev_var (i := 1) rfl) (by omega)) el_nil fun pL pF H1 H2 nL e1 hL nF e2 hF => ?_
  have nF0 := fresh_back e1 nF
  have hneF := R.fresh nF0
  have hL2 := e2 _ _ hL
  have nLF : pL ≠ pF := ne_of_none hL nF
  refine q_forR1 (n := (m : Int)) (ea_one (ev_var rfl)) ⟨by omega, by omega⟩ (fun i σ H' => ∃ (pL : Addr) (L Fo : List Nat) (u4 u5 : Option V), σ = [some (.ref pr), some (nV m), some (.ref pL), some (.ref pF), u4, u5] ∧ G K pr a ns H H' ∧ H' pL = some (.lst (L.map nV)) ∧ H' pF = some (.lst (Fo.map nV)) ∧ (Fo ++ L).Perm (List.range m) ∧ Fo.length = i ∧ pL ≠ pF ∧ H pL = none)
    (fun H3 e3 => ⟨pL, List.range m, [], _, _, rfl, G.ex R (e1.trans (e2.trans e3)), e3 _ _ hL2, e3 _ _ hF, List.Perm.refl _, rfl, nLF, nL⟩) ?_ ?_
  · rintro i σ H3 hi ⟨pL, L, Fo, u4, u5, rfl, g3, hL3, hF3, pm, lf, nLF, nL⟩
    have hlen := pm.length_eq
    rw [List.length_append, List.length_range, lf] at hlen
    have hneL := R.fresh nL
    have lL : ((L.map nV).length : Int) = ((L.length : Nat) : Int) := by rw [List.length_map]
    refine q_asgD (K := K) g3.row (evd_taken (K := K) (M := L.length) (fun H4 _ => ev_var rfl) (evdn_of (x := L.length) (fun H4 g4 => ev_is (ev_lenL (ev_var (i := 2) rfl) (g4.keep _ _ hneL hL3)) (by rw [lL])) ⟨by omega, Nat.le_refl _⟩) (by omega)) fun v H4 g4 ⟨r, ev, hr⟩ => ?_
    subst ev
    have hL4 := g4.keep _ _ hneL hL3
    have hF4 := g4.keep _ _ hneF hF3
    have hx : L[r]? = some L[r] := List.getElem?_eq_getElem hr
    have g04 := g3.trans g4
    refine q_app hF4 (ev_var rfl) (ev_ixL (K := K) (i := r) (ev_var (i := 2) rfl) (ev_var (i := 5) rfl) hL4 (ix_nat hx)) (by rw [List.length_map]; omega) fun H5 e5 => ?_
    have g5 : G K pr a ns H (upd H5 pF (.lst (Fo.map nV ++ [nV L[r]]))) := (g04.grow e5).mut R nF0
    have hL5 : upd H5 pF (.lst (Fo.map nV ++ [nV L[r]])) pL = some (.lst (L.map nV)) := by rw [upd_ne nLF]; exact e5 _ _ hL4
    have hF5 : upd H5 pF (.lst (Fo.map nV ++ [nV L[r]])) pF = some (.lst ((Fo ++ [L[r]]).map nV)) := by rw [upd_same, List.map_append]; rfl
    generalize upd H5 pF (.lst (Fo.map nV ++ [nV L[r]])) = H6 at g5 hL5 hF5 ⊢
    refine s_asgL (el_cat (el_sl (K := K) (ev_var (i := 2) rfl) eo_none (eo_some (ev_var (i := 5) rfl)) (sq_of hL5)) (el_sl (K := K) (ev_var (i := 2) rfl) (eo_some (ev_op (ev_var (i := 5) rfl) ev_c (rv_I0 (g := fun i j => .int (i + j))))) eo_none (sq_of hL5)) (by
      have z1 := cutV_length (L.map nV) none (some (r : Int))
      have z2 := cutV_length (L.map nV) (some ((r : Int) + 1)) none
      rw [List.length_map] at z1 z2
      omega)) fun pN H7 nN e7 hN => ?_
    refine ⟨pN, L.take r ++ L.drop (r + 1), Fo ++ [L[r]], _, _, rfl, g5.grow e7, ?_, e7 _ _ hF5, ?_, by rw [List.length_append, lf]; rfl, (ne_of_none hF5 nN).symm, g5.fresh nN⟩
    · rw [hN, cut_to, show ((r : Int) + 1) = ((r + 1 : Nat) : Int) by rw [Int.natCast_add]; rfl, cut_from, List.map_append]
    · refine List.Perm.trans ?_ pm
      have e : L = L.take r ++ L[r] :: L.drop (r + 1) := by simp
      conv => rhs; rw [e]
      rw [List.append_assoc]
      exact List.Perm.append_left _ ((List.perm_middle (a := L[r]) (l₁ := L.take r) (l₂ := L.drop (r + 1))).symm)
  · rintro σ H3 ⟨pL, L, Fo, u4, u5, rfl, g3, hL3, hF3, pm, lf, nLF, nL⟩
    have tm : ((m : Nat) : Int).toNat = m := Int.toNat_natCast _
    rw [tm] at lf
    have hlen := pm.length_eq
    rw [List.length_append, List.length_range, lf] at hlen
    have el : L = [] := List.length_eq_zero_iff.mp (by omega)
    rw [el, List.append_nil] at pm
    exact s_ret (ev_var rfl) fun H4 e4 => q pF Fo H4 nF0 (g3.grow e4) (e4 _ _ hF3) pm
end
end NH
namespace NH
open PySem L2 Evl
/-! ### roads that are drawn -/
structure Rds (n : Nat) (R : List Road) : Prop where
  ok : RdOk n R
  most : ∀ r ∈ R, r.2.2 ≤ 100
  down : ∀ b, 1 ≤ b → b < n → ∃ a l, (a, b, l) ∈ R ∧ a < b
  ways : ∀ i j, i < n → j < n → ∃ L, W R i j L ∧ L ≤ sumLen R
theorem Wm.sub {R S : List Road} (h : ∀ r ∈ R, r ∈ S) {i j : Nat} {m : List Nat} {L : Int} (w : Wm R i m j L) : Wm S i m j L := by
  have he : ∀ {u v l}, Ed R u v l → Ed S u v l := fun e => e.elim (fun q => .inl (h _ q)) (fun q => .inr (h _ q))
  induction w with
  | edge e => exact .edge (he e)
  | cons e _ ih => exact .cons (he e) ih
theorem W.sub {R S : List Road} (h : ∀ r ∈ R, r ∈ S) {i j : Nat} {L : Int} (w : W R i j L) : W S i j L := by
  rcases w with q | ⟨m, q⟩
  · exact .inl q
  · exact .inr ⟨m, q.sub h⟩
theorem sumLen_add (R : List Road) (r : Road) : sumLen (R ++ [r]) = sumLen R + r.2.2 := by
  unfold sumLen
  rw [List.map_append, List.sum_append]
  simp
theorem sumLen_perm {R S : List Road} (p : R.Perm S) : sumLen R = sumLen S := by
  unfold sumLen
  have key : ∀ {l m : List Int}, l.Perm m → l.sum = m.sum := fun q => by
    induction q with
    | nil => rfl
    | cons x _ ih => rw [List.sum_cons, List.sum_cons, ih]
    | swap x y l => rw [List.sum_cons, List.sum_cons, List.sum_cons, List.sum_cons]; omega
    | trans _ _ h1 h2 => exact h1.trans h2
  exact key (p.map _)
theorem Rds.one : Rds 1 [] := ⟨⟨fun r h => absurd h List.not_mem_nil, fun r h => absurd h List.not_mem_nil, fun r h => absurd h List.not_mem_nil, List.nodup_nil⟩, fun r h => absurd h List.not_mem_nil, fun b h1 h2 => by omega, fun i j hi hj => ⟨0, .inl ⟨by omega, rfl⟩, by decide⟩⟩
theorem mem_snoc {α : Type} {l : List α} {x y : α} (h : y ∈ l ++ [x]) : y ∈ l ∨ y = x := (List.mem_append.mp h).imp_right List.mem_singleton.mp
theorem Rds.tree {m a l : Nat} {R : List Road} (h : Rds m R) (hm : 1 ≤ m) (ha : a < m) (l1 : 1 ≤ l) (l2 : l ≤ 100) : Rds (m + 1) (R ++ [(a, m, (l : Int))]) := by
  have sub : ∀ r ∈ R, r ∈ R ++ [(a, m, (l : Int))] := fun r hr => List.mem_append_left _ hr
  have new : (a, m, (l : Int)) ∈ R ++ [(a, m, (l : Int))] := List.mem_append_right _ List.mem_cons_self
  have es : sumLen (R ++ [(a, m, (l : Int))]) = sumLen R + l := sumLen_add _ _
  have pos0 : 0 ≤ sumLen R := by
    obtain ⟨L, w, hL⟩ := h.ways 0 0 (by omega) (by omega)
    have := w.pos h.ok
    omega
  have from' : ∀ j, j < m → ∃ L, W (R ++ [(a, m, (l : Int))]) m j L ∧ L ≤ sumLen R + l := fun j hj => by
    obtain ⟨L, w, hL⟩ := h.ways a j ha hj
    rcases w with ⟨e1, e2⟩ | ⟨mm, w⟩
    · subst e1
      exact ⟨l, .inr ⟨_, .edge (.inr new)⟩, by omega⟩
    · exact ⟨l + L, .inr ⟨_, .cons (.inr new) (w.sub sub)⟩, by omega⟩
  refine ⟨⟨fun r hr => ?_, fun r hr => ?_, fun r hr => ?_, ?_⟩, fun r hr => ?_, fun b h1 h2 => ?_, fun i j hi hj => ?_⟩
  · rcases mem_snoc hr with q | q
    · exact h.ok.lt r q
    · rw [q]; exact ha
  · rcases mem_snoc hr with q | q
    · have := h.ok.bd r q
      omega
    · rw [q]; exact Nat.lt_succ_self m
  · rcases mem_snoc hr with q | q
    · exact h.ok.pos r q
    · rw [q]
      show (0 : Int) < (l : Int)
      omega
  · rw [List.map_append]
    refine List.nodup_append.mpr ⟨h.ok.nod, by simp, fun x hx y hy => ?_⟩
    rw [List.mem_singleton.mp hy]
    intro e
    obtain ⟨r, hr, er⟩ := List.mem_map.mp hx
    have := h.ok.bd r hr
    rw [e] at er
    have e2 : r.2.1 = m := congrArg Prod.snd er
    omega
  · rcases mem_snoc hr with q | q
    · exact h.most r q
    · rw [q]
      show (l : Int) ≤ 100
      omega
  · by_cases e : b = m
    · subst e
      exact ⟨a, _, new, ha⟩
    · obtain ⟨x, y, h3, h4⟩ := h.down b h1 (by omega)
      exact ⟨x, y, sub _ h3, h4⟩
  · rw [es]
    by_cases ei : i = m
    · by_cases ej : j = m
      · exact ⟨0, .inl ⟨by omega, rfl⟩, by omega⟩
      · subst ei
        exact from' j (by omega)
    · by_cases ej : j = m
      · subst ej
        obtain ⟨L, w, hL⟩ := from' i (by omega)
        exact ⟨L, w.rev, hL⟩
      · obtain ⟨L, w, hL⟩ := h.ways i j (by omega) (by omega)
        exact ⟨L, w.sub sub, by omega⟩
theorem Rds.extra {n a b l : Nat} {R : List Road} (h : Rds n R) (hab : a < b) (hb : b < n) (hn : (a, b) ∉ R.map fun r => (r.1, r.2.1)) (l1 : 1 ≤ l) (l2 : l ≤ 100) : Rds n (R ++ [(a, b, (l : Int))]) := by
  have sub : ∀ r ∈ R, r ∈ R ++ [(a, b, (l : Int))] := fun r hr => List.mem_append_left _ hr
  have es : sumLen (R ++ [(a, b, (l : Int))]) = sumLen R + l := sumLen_add _ _
  refine ⟨⟨fun r hr => ?_, fun r hr => ?_, fun r hr => ?_, ?_⟩, fun r hr => ?_, fun c h1 h2 => ?_, fun i j hi hj => ?_⟩
  · rcases mem_snoc hr with q | q
    · exact h.ok.lt r q
    · rw [q]; exact hab
  · rcases mem_snoc hr with q | q
    · exact h.ok.bd r q
    · rw [q]; exact hb
  · rcases mem_snoc hr with q | q
    · exact h.ok.pos r q
    · rw [q]
      show (0 : Int) < (l : Int)
      omega
  · rw [List.map_append]
    refine List.nodup_append.mpr ⟨h.ok.nod, by simp, fun x hx y hy => ?_⟩
    rw [List.mem_singleton.mp hy]
    exact fun e => hn (by
      rw [e] at hx
      exact hx)
  · rcases mem_snoc hr with q | q
    · exact h.most r q
    · rw [q]
      show (l : Int) ≤ 100
      omega
  · obtain ⟨x, y, h3, h4⟩ := h.down c h1 h2
    exact ⟨x, y, sub _ h3, h4⟩
  · obtain ⟨L, w, hL⟩ := h.ways i j hi hj
    exact ⟨L, w.sub sub, by omega⟩
theorem Rds.perm {n : Nat} {R S : List Road} (h : Rds n R) (p : S.Perm R) : Rds n S := by
  refine ⟨⟨fun r hr => h.ok.lt r (p.mem_iff.mp hr), fun r hr => h.ok.bd r (p.mem_iff.mp hr), fun r hr => h.ok.pos r (p.mem_iff.mp hr), (p.map _).nodup_iff.mpr h.ok.nod⟩, fun r hr => h.most r (p.mem_iff.mp hr), fun b h1 h2 => ?_, fun i j hi hj => ?_⟩
  · obtain ⟨x, y, h3, h4⟩ := h.down b h1 h2
    exact ⟨x, y, p.mem_iff.mpr h3, h4⟩
  · obtain ⟨L, w, hL⟩ := h.ways i j hi hj
    exact ⟨L, w.sub fun r hr => p.mem_iff.mpr hr, by rw [sumLen_perm p]; exact hL⟩
theorem Rds.web {ws : List Int} {R : List Road} (h : Rds ws.length R) (n2 : 2 ≤ ws.length) (n7 : ws.length ≤ 7) (hw : ∀ x ∈ ws, 0 ≤ x ∧ x ≤ 100) (hs : 0 < ws.sum) (hl : R.length ≤ 14) : WebOk ws R :=
  ⟨n2, n7, hw, hs, hl, h.ok, h.most, ⟨by omega, fun r hr => by
    have := h.ok.lt r hr
    have := h.ok.bd r hr
    omega, h.down⟩, h.ways⟩
end NH
namespace NH
open PySem L2 Evl
section
variable {K : PySem.W.Frag} {pr a : Addr} {ns : List Int} {σ : L2.St} {H : Hp} {D : Ends} {tz tu : TS}
theorem q_asgTripD {t1 t2 : TE} {i j k : Nat} {N1 N2 : Nat → Prop} (R : RowAt K pr a ns H) (h1 : EvDn K pr a ns t1 σ H N1) (h2 : EvDn K pr a ns t2 σ H N2) (kk : ∀ x y p H1, N1 x → N2 y → H p = none → G K pr a ns H H1 → H1 p = some (.lst []) → tz D (((σ.set i (some (nV x))).set j (some (nV y))).set k (some (.ref p))) H1) :
    tSeq (tAsg (tTup (tCons t1 (tCons t2 (tCons (tLst tNil) tNil)))) (gTup K 3 (gCons (gName i) (gCons (gName j) (gCons (gName k) gNil))))) tz D σ H := by
  show tCons t1 (tCons t2 (tCons (tLst tNil) tNil)) σ H fun vs H1 => vs.length ≤ sizeLine ∧ ∀ p, H1 p = none → gTup K 3 (gCons (gName i) (gCons (gName j) (gCons (gName k) gNil))) (.ref p) σ (upd H1 p (.tup vs)) (tz D)
  refine h1 H (.refl R) _ fun v H1 g1 ⟨x, ev, hx⟩ => h2 H1 g1 _ fun v2 H2 g2 ⟨y, ev2, hy⟩ => el_nil H2 (Ex.refl H2) _ fun p H3 np e3 hp => ?_
  subst ev
  subst ev2
  refine ⟨three_line, fun t nt => g_trip upd_same (kk x y p _ hx hy ((g1.trans g2).fresh np) ((g1.trans g2).grow (e3.trans (Ex.new nt))) (Ex.new nt _ _ hp))⟩
theorem q_forRD {te : TE} {j M : Nat} (R : RowAt K pr a ns H) (h : EvDn K pr a ns te σ H (fun x => x < M)) (hM : M ≤ 1000) (Pv : Nat → L2.St → Hp → Prop) (h0 : ∀ H1, G K pr a ns H H1 → Pv 0 σ H1)
    (hs : ∀ (i : Nat) σ' H', i < M → Pv i σ' H' → tu { D with nx := Pv (i + 1), ct := Pv (i + 1), bk := tz D } (σ'.set j (some (nV i))) H') (hd : ∀ i σ' H', i < M → Pv i σ' H' → tz D σ' H') : tSeq (tFor (iRng1 (tCons te tNil)) (gName j) tu) tz D σ H := by
  refine h H (.refl R) _ fun v H1 g ⟨x, ev, hx⟩ => ?_
  subst ev
  have tx : ((x : Nat) : Int).toNat = x := Int.toNat_natCast _
  refine ⟨(x : Int), rfl, by omega, by omega, ?_⟩
  rw [tx]
  exact for_range (lo := 0) (n := x) Pv (h0 H1 g) (fun i σ' H' hi p => by
    have e0 : (0 : Int) + (i : Int) = (i : Int) := Int.zero_add _
    show tu { D with nx := Pv (i + 1), ct := Pv (i + 1), bk := tz D } (σ'.set j (some (.int ((0 : Int) + (i : Int))))) H'
    rw [e0]
    exact hs i σ' H' (by omega) p) fun σ' H' p => hd x σ' H' hx p
/-- l.append(drawn) -/
theorem s_appD {te ta : TE} {l : Addr} {xs : List V} {P : V → Hp → Prop} (R : RowAt K pr a ns H) (ne : l ≠ pr) (hl : H l = some (.lst xs)) (ha : Ev ta σ H (.ref l)) (h : EvD K pr a ns te σ H P) (hz : xs.length < 100000) (k : ∀ v H1, G K pr a ns H H1 → P v H1 → H1 l = some (.lst xs) → D.nx σ (upd H1 l (.lst (xs ++ [v])))) :
    tDrop (tBM K "list" rAppend ta (tCons te tNil)) D σ H := ha H (Ex.refl H) _ fun H1 e1 =>
  ⟨Or.inl ⟨rfl, xs, sq_of (e1 l _ hl)⟩, h H1 (.ex R e1) _ fun v H2 g2 hv => ⟨l, xs, v, rfl, rfl, g2.keep _ _ ne (e1 l _ hl), sz_lt hz, k v H2 ((G.ex R e1).trans g2) hv (g2.keep _ _ ne (e1 l _ hl))⟩⟩
theorem evd_trip {t1 t2 te : TE} {x y : V} {N : Nat → Prop} (h1 : ∀ H1, G K pr a ns H H1 → Ev t1 σ H1 x) (h2 : ∀ H1, G K pr a ns H H1 → Ev t2 σ H1 y) (h3 : EvDn K pr a ns te σ H N) :
    EvD K pr a ns (tTup (tCons t1 (tCons t2 (tCons te tNil)))) σ H (fun v H' => ∃ t z, v = .ref t ∧ H' t = some (.tup [x, y, nV z]) ∧ N z) := fun H1 g Q q => by
  refine h1 H1 g H1 (Ex.refl H1) _ fun H2 e2 => h2 H1 g H2 e2 _ fun H3 e3 => h3 H3 (g.grow (e2.trans e3)) _ fun v H4 g4 ⟨z, ev, hz⟩ => ?_
  subst ev
  exact ⟨three_line, fun t nt => q _ _ (((G.ex g.row (e2.trans e3)).trans g4).grow (Ex.new nt)) ⟨t, z, rfl, upd_same, hz⟩⟩
/-- a comprehension that draws -/
theorem lcD {tt : TT} {te : TE} {ta : TA} {j n : Nat} (Inv : Nat → List Nat → Prop) (len : ∀ i xs, Inv i xs → xs.length ≤ i) (R : RowAt K pr a ns H) (hta : EvA ta σ H [.int (n : Int)]) (hn : n ≤ 40000)
    (w : ∀ x, wipe ((wipe σ [j]).set j (some x)) [j] = wipe σ [j]) (h0 : Inv 0 [])
    (hs : ∀ i xs H1, i < n → Inv i xs → G K pr a ns H H1 → ∀ (Qy : V → Hp → Prop) (Qn : Hp → Prop), (∀ x H2, G K pr a ns H1 H2 → Inv (i + 1) (xs ++ [x]) → Qy (nV x) H2) → (∀ H2, G K pr a ns H1 H2 → Inv (i + 1) xs → Qn H2) →
      tt ((wipe σ [j]).set j (some (nV i))) H1 fun b H3 => if b = true then te ((wipe σ [j]).set j (some (nV i))) H3 Qy else Qn H3)
    {Q : VK} (q : ∀ p xs H', H p = none → G K pr a ns H H' → H' p = some (.lst (xs.map nV)) → Inv n xs → Q (.ref p) H') : tLc (iRng1 ta) (gName j) tt te [j] σ H Q := by
  refine hta H (Ex.refl H) _ fun H1 e1 => ⟨(n : Int), rfl, by omega, by omega, fun Dl hD => ?_⟩
  have tn : ((n : Nat) : Int).toNat = n := Int.toNat_natCast _
  rw [tn]
  have nD := fresh_back e1 hD
  have neD := R.fresh nD
  refine lc_range (lo := 0) (n := n) (fun i H' => ∃ xs, G K pr a ns H H' ∧ H' Dl = some (.lst (xs.map nV)) ∧ Inv i xs) ⟨[], (G.ex R e1).mut R nD, upd_same, h0⟩ ?_ ?_
  · rintro i H' hi ⟨xs, g, hl, iv⟩
    have e0 : (0 : Int) + (i : Int) = (i : Int) := Int.zero_add _
    rw [e0]
    refine ⟨w _, ?_⟩
    refine hs i xs H' hi iv g (fun y H4 => ∃ acc, H4 Dl = some (.lst acc) ∧ acc.length < sizeLine ∧ ∃ xs, G K pr a ns H (upd H4 Dl (.lst (acc ++ [y]))) ∧ upd H4 Dl (.lst (acc ++ [y])) Dl = some (.lst (xs.map nV)) ∧ Inv (i + 1) xs) (fun H3 => ∃ xs, G K pr a ns H H3 ∧ H3 Dl = some (.lst (xs.map nV)) ∧ Inv (i + 1) xs) (fun x H2 g2 iv2 => ?_) fun H2 g2 iv2 => ?_
    · refine ⟨_, g2.keep _ _ neD hl, by
        rw [List.length_map]
        have := len i xs iv
        exact sz_lt (by omega), xs ++ [x], (g.trans g2).mut R nD, ?_, iv2⟩
      rw [upd_same, List.map_append]
      rfl
    · exact ⟨xs, g.trans g2, g2.keep _ _ neD hl, iv2⟩
  · rintro H' ⟨xs, g, hl, iv⟩
    exact q Dl xs H' nD g hl iv
/-- numbers all drawn -/
theorem evd_lcN {te : TE} {ta : TA} {j n : Nat} {N : Nat → Prop} (hta : ∀ H1, G K pr a ns H H1 → EvA ta σ H1 [.int (n : Int)]) (hn : n ≤ 40000)
    (w : ∀ x, wipe ((wipe σ [j]).set j (some x)) [j] = wipe σ [j]) (h : ∀ (i : Nat) H1, i < n → G K pr a ns H H1 → EvDn K pr a ns te ((wipe σ [j]).set j (some (nV i))) H1 N) :
    EvD K pr a ns (tLc (iRng1 ta) (gName j) tYes te [j]) σ H (fun v H' => ∃ (p : Addr) (xs : List Nat), v = .ref p ∧ H p = none ∧ H' p = some (.lst (xs.map nV)) ∧ xs.length = n ∧ ∀ x ∈ xs, N x) := fun H1 g Q q =>
  lcD (K := K) (fun i xs => xs.length = i ∧ ∀ x ∈ xs, N x) (fun i xs h => by rw [h.1]; exact Nat.le_refl _) g.row (hta H1 g) hn w ⟨rfl, fun x h => absurd h List.not_mem_nil⟩ (fun i xs H2 hi iv g2 Qy Qn qy qn => by
    show (if true = true then te _ H2 Qy else Qn H2)
    rw [if_pos rfl]
    refine h i H2 hi (g.trans g2) H2 (.refl g2.row) _ fun v H3 g3 ⟨x, ev, hx⟩ => ?_
    subst ev
    refine qy x H3 g3 ⟨by rw [List.length_append, iv.1]; rfl, fun y hy => ?_⟩
    rcases mem_snoc hy with h | h
    · exact iv.2 y h
    · rw [h]; exact hx) fun p xs H' np g' hp iv => q _ H' g' ⟨p, xs, rfl, g.fresh np, hp, iv.1, iv.2⟩
end
theorem RoadR.g {K : PySem.W.Frag} {pr a : Addr} {ns : List Int} {H H' : Hp} (R : RowAt K pr a ns H) (g : G K pr a ns H H') {b : Road} {v : V} (h : RoadR b v H) : RoadR b v H' := by
  obtain ⟨t, h1, h2⟩ := h
  exact ⟨t, h1, g.tup R h2⟩
end NH
namespace NH
open PySem L2 Evl
section
variable {P : Program} {w : World} {K : PySem.W.Frag} {mg : Str → Option Value} {base : Heap} {f : Addr} {fd : FuncData}
def spLWeb (K : PySem.W.Frag) : Sp := fun vs H Q _ => ∃ (pr a : Addr) (ns : List Int), vs = [.ref pr, nV 7, nV 5] ∧ RowAt K pr a ns H ∧ ∀ p pw pq ws rs H', G K pr a ns H H' → WebAt H' p pw pq ws rs → WebOk ws rs → Q (.ref p) H'
theorem scLWeb : FnScope ["_law_row", "_law_most", "_law_extra", "_law_count", "_law_big", "_law_roads", "_law_b", "_law_a", "_law_turn", "_law_order_here", "_law_weights", "_law_road", "_law_k"] ["_law_row", "_law_most", "_law_extra"] (defScope s_law_web) := ⟨rfl, rfl, rfl, by decide +kernel, rfl, by decide +kernel, by decide +kernel⟩
/-- append of a road whose length is drawn -/
abbrev tApRoad (K : PySem.W.Frag) (tl : TE) : TS := tDrop (tBM K "list" rAppend (tVar 5) (tCons (tTup (tCons (tVar 7) (tCons (tVar 6) (tCons (tOp (rI0 fun i j => .int (i + j)) (tC (.int 1)) (tCall (spTaken K) [] E0 (tCons (tVar 0) (tCons tl tNil)))) tNil)))) tNil))
/-- order(row, m) -/
theorem evd_order {pr a : Addr} {ns : List Int} {σ : L2.St} {H : Hp} {tr tm : TE} {m : Nat} (hr : ∀ H1, G K pr a ns H H1 → Ev tr σ H1 (.ref pr)) (hm : ∀ H1, G K pr a ns H H1 → Ev tm σ H1 (nV m)) (hM : m ≤ 1000) :
    EvD K pr a ns (tCall (spOrder K) [] E0 (tCons tr (tCons tm tNil))) σ H (fun v H' => ∃ (p : Addr) (l : List Nat), v = .ref p ∧ H' p = some (.lst (l.map nV)) ∧ l.Perm (List.range m)) := fun H1 g Q q => by
  refine hr H1 g H1 (Ex.refl H1) _ fun H2 e2 => hm H2 (g.grow e2) H2 (Ex.refl H2) _ fun H3 e3 => ?_
  exact ⟨pr, a, ns, m, rfl, g.row.ex (e2.trans e3), hM, fun p l H4 np g4 hp pm => q _ H4 ((G.ex g.row (e2.trans e3)).trans g4) ⟨p, l, rfl, hp, pm⟩⟩
theorem evN_tup2 {σ : L2.St} {H : Hp} {ta tb : TE} {PA PB : Addr → Hp → Prop} (mA : ∀ p H H', Ex H H' → PA p H → PA p H') (mB : ∀ p H H', Ex H H' → PB p H → PB p H') (ha : EvN ta σ H PA) (hb : EvN tb σ H PB) : EvN (tTup (tCons ta (tCons tb tNil))) σ H (fun p H' => ∃ x y, H' p = some (.tup [.ref x, .ref y]) ∧ PA x H' ∧ PB y H') := fun H1 e Q q =>
  ha H1 e _ fun x H2 nx e2 hx => hb H2 (e.trans e2) _ fun y H3 ny e3 hy => ⟨two_line, fun p np => q p _ (fresh_back (e2.trans e3) np) ((e2.trans e3).trans (Ex.new np)) ⟨x, y, upd_same, mA _ _ _ (e3.trans (Ex.new np)) hx, mB _ _ _ (Ex.new np) hy⟩⟩
theorem evN_tupOld {σ : L2.St} {H : Hp} {te : TE} {p : Addr} {xs : List V} (h : Ev te σ H (.ref p)) (hp : H p = some (.lst xs)) : EvN (tCB (rTupA K) (tCons te tNil)) σ H (fun q H' => H' q = some (.tup xs)) := fun H1 e Q q =>
  h H1 e _ fun H2 e2 => ⟨p, xs, rfl, .inl ⟨sq_of (e2 _ _ (e _ _ hp)), fun t nt => q t _ (fresh_back e2 nt) (e2.trans (Ex.new nt)) upd_same⟩⟩
theorem ev_sumO {σ : L2.St} {H : Hp} {te : TE} {p : Addr} {ns : List Int} (h : Ev te σ H (.ref p)) (hp : H p = some (.lst (ns.map V.int))) : Ev (tCB (rSum K) (tCons te tNil)) σ H (.int ns.sum) := fun H1 e Q q =>
  h H1 e _ fun H2 e2 => ⟨p, ns, rfl, sq_of (e2 _ _ (e _ _ hp)), q H2 e2⟩
theorem map_getD_range {α : Type} (l : List α) (d : α) : (List.range l.length).map (fun k => l.getD k d) = l := by
  refine List.ext_getElem (by rw [List.length_map, List.length_range]) fun i h1 h2 => ?_
  rw [List.getElem_map, List.getElem_range, List.getD_eq_getElem?_getD, List.getElem?_eq_getElem h2]
  rfl
theorem sum_zN_pos : ∀ (l : List Nat), 0 ≤ (zN l).sum
  | [] => by decide
  | x :: t => by
    have := sum_zN_pos t
    show 0 ≤ ((x : Int) :: zN t).sum
    rw [List.sum_cons]
    omega
/-- the weights behind the repair of none -/
theorem wts_ok {x : Nat} {t : List Nat} (h : ∀ y ∈ x :: t, y < 101) : (∀ y ∈ (((x : Int) + if (zN (x :: t)).sum = 0 then 1 else 0) :: zN t), 0 ≤ y ∧ y ≤ 100) ∧ 0 < (((x : Int) + if (zN (x :: t)).sum = 0 then 1 else 0) :: zN t).sum := by
  have e : (zN (x :: t)).sum = (x : Int) + (zN t).sum := List.sum_cons
  have p := sum_zN_pos t
  have hx := h x List.mem_cons_self
  rw [List.sum_cons, e]
  constructor
  · intro y hy
    rcases List.mem_cons.mp hy with q | q
    · rw [q]
      split <;> omega
    · obtain ⟨z, hz, ez⟩ := mem_zN.mp q
      have := h z (List.mem_cons_of_mem _ hz)
      omega
  · split <;> omega
theorem ok_lweb (T : Txt K mg) (CT : Cl P w K mg base "_law_taken" 1 ["_law_row", "_law_many"] (spTaken K)) (CP : Cl P w K mg base "_law_pick" 2 ["_law_row", "_law_things"] (spPick K)) (CO : Cl P w K mg base "_law_order" 2 ["_law_row", "_law_many"] (spOrder K))
    (F : Fun K "_law_web" "_law_web" s_law_web f fd) : FnOk P w K mg base CX0 3 f fd ["_law_row", "_law_most", "_law_extra"] (spLWeb K) := by
  refine F.ok scLWeb (fun vs H Q E h => ?_) (fun cdv A outer s H vs Q E hr h => ?_)
  · obtain ⟨_, _, _, rfl, _⟩ := h
    rfl
  obtain ⟨pr, a, ns, rfl, RA, q⟩ := h
  have hr1 := hr.mono (show 1 ≤ 2 by decide)
  refine ⟨_, pss_cons (ps_asg (pe_tup (pa_cons (pe_op op_add pe_int (pe_cl CT hr1 (by rfl) (pa_cons (pv 0) (pa_cons (pe_op op_sub (pv 1) pe_int) pa_nil)))) (pa_cons (pe_cl CP hr (by rfl) (pa_cons (pv 0) (pa_cons (pe_lst (pa_cons pe_int (pa_cons pe_int (pa_cons pe_int pa_nil)))) pa_nil))) (pa_cons (pe_lst pa_nil) pa_nil))))
      (pg_tup rfl (pgs_cons (pg_name (i := 3) scLWeb.nd rfl (Or.inl rfl)) (pgs_cons (pg_name (i := 4) scLWeb.nd rfl (Or.inl rfl)) (pgs_cons (pg_name (i := 5) scLWeb.nd rfl (Or.inr rfl)) pgs_nil)))))
    (pss_cons (ps_for PassesOwn.never rfl (pi_range2 (by rfl) T.b_range (pa_cons pe_int (pa_cons (pv 3) pa_nil))) (pg_name (i := 6) scLWeb.nd rfl (Or.inl rfl))
      (pss_cons (ps_set (i := 7) scLWeb.nd rfl (Or.inl rfl) (pe_cl CP hr (by rfl) (pa_cons (pv 0) (pa_cons (pe_lst (pa_cons (pe_op op_sub (pv 6) pe_int) (pa_cons (pe_cl CT hr1 (by rfl) (pa_cons (pv 0) (pa_cons (pv 6) pa_nil))) (pa_cons pe_int pa_nil)))) pa_nil))))
      (pss_one (ps_expr (pe_bm PySem.F.plainAttrs_list PySem.F.slot_list_append PySem.F.type_list_append mt_append (pv 5) (pa_cons (pe_tup (pa_cons (pv 7) (pa_cons (pv 6) (pa_cons (pe_op op_add pe_int (pe_cl CT hr1 (by rfl) (pa_cons (pv 0) (pa_cons (pe_cl CP hr (by rfl) (pa_cons (pv 0) (pa_cons (pe_lst (pa_cons pe_int (pa_cons (pv 4) pa_nil))) pa_nil))) pa_nil)))) pa_nil)))) pa_nil))))))
    (pss_cons (ps_for PassesOwn.never rfl (pi_range1 (by rfl) T.b_range (pa_cons (pe_cl CT hr1 (by rfl) (pa_cons (pv 0) (pa_cons (pe_op op_add (pv 2) pe_int) pa_nil))) pa_nil)) (pg_name (i := 8) scLWeb.nd rfl (Or.inl rfl))
      (pss_cons (ps_set (i := 6) scLWeb.nd rfl (Or.inl rfl) (pe_op op_add pe_int (pe_cl CT hr1 (by rfl) (pa_cons (pv 0) (pa_cons (pe_op op_sub (pv 3) pe_int) pa_nil)))))
      (pss_cons (ps_set (i := 7) scLWeb.nd rfl (Or.inl rfl) (pe_cl CT hr1 (by rfl) (pa_cons (pv 0) (pa_cons (pv 6) pa_nil))))
      (pss_one (ps_if (pt_cmpR (op_notInD (hu65 hr)) (pe_tup (pa_cons (pv 7) (pa_cons (pv 6) pa_nil)))
        (pe_lc (own := [("_law_road", 11)]) (g := gName 11) (tt := tYes) (te := tSl (rSlT K) (tVar 11) tNoPart (tPart (tC (.int 2)))) rfl scLWeb.nd (pi_list (pv 5)) (blkOk_by (by kernel_rfl)) (fun _ _ _ _ _ => pg_name (i := 11) scLWeb.nd rfl (Or.inl rfl)) (fun _ _ _ _ _ => pts_nil)
          (fun _ _ _ _ _ => pe_slice sl_tup (pv 11) po_none (po_some pe_int))) (by rfl))
        (pss_one (ps_expr (pe_bm PySem.F.plainAttrs_list PySem.F.slot_list_append PySem.F.type_list_append mt_append (pv 5) (pa_cons (pe_tup (pa_cons (pv 7) (pa_cons (pv 6) (pa_cons (pe_op op_add pe_int (pe_cl CT hr1 (by rfl) (pa_cons (pv 0) (pa_cons (pv 4) pa_nil)))) pa_nil)))) pa_nil)))) pss_nil)))))
    (pss_cons (ps_set (i := 9) scLWeb.nd rfl (Or.inl rfl) (pe_cl CO hr (by rfl) (pa_cons (pv 0) (pa_cons (pe_callB call_len_seq (by rfl) T.b_len PySem.boot_len (pa_cons (pv 5) pa_nil)) pa_nil))))
    (pss_cons (ps_setLc (i := 10) (own := [("_law_k", 12)]) (g := gName 12) (tt := tYes) (te := tCall (spTaken K) [] E0 (tCons (tVar 0) (tCons (tCall (spPick K) [] E0 (tCons (tVar 0) (tCons (tLst (tCons (tC (.int 2)) (tCons (tC (.int 6)) (tCons (tC (.int 101)) tNil)))) tNil))) tNil))) rfl scLWeb.nd rfl rfl (sw_true rfl rfl rfl (by decide +kernel))
        (pi_range1 (by rfl) T.b_range (pa_cons (pv 3) pa_nil)) (blkOk_by (by kernel_rfl)) (fun _ _ _ _ _ => pg_name (i := 12) scLWeb.nd rfl (Or.inl rfl)) (fun _ _ _ _ _ => pts_nil)
        (fun _ _ _ _ _ => pe_cl CT hr1 (by rfl) (pa_cons (pv 0) (pa_cons (pe_cl CP hr (by rfl) (pa_cons (pv 0) (pa_cons (pe_lst (pa_cons pe_int (pa_cons pe_int (pa_cons pe_int pa_nil)))) pa_nil))) pa_nil))))
    (pss_cons (ps_asg (pe_op op_add (pe_ix ix_list (pv 10) pe_int (fun _ _ => rfl)) (pe_ifExp (pt_cmpR op_eq (pe_callB (cr_sum rfl) (by rfl) T.b_sum (by decide +kernel) (pa_cons (pv 10) pa_nil)) pe_int (nomark _)) pe_int pe_int)) (pg_sub (pv 10) pe_int set_list))
    (pss_one (ps_ret (pe_tup (pa_cons (pe_callTy call_tuple_of (by rfl) T.b_tuple (by decide +kernel) (pa_cons (pv 10) pa_nil)) (pa_cons (pe_callTy call_tuple_of (by rfl) T.b_tuple (by decide +kernel) (pa_cons
      (pe_lc (own := [("_law_k", 12)]) (g := gName 12) (tt := tYes) (te := tOp (rIxL K) (tVar 5) (tVar 12)) rfl scLWeb.nd (pi_list (pv 9)) (blkOk_by (by kernel_rfl)) (fun _ _ _ _ _ => pg_name (i := 12) scLWeb.nd rfl (Or.inl rfl)) (fun _ _ _ _ _ => pts_nil)
        (fun _ _ _ _ _ => pe_ix ix_list (pv 5) (pv 12) (fun _ _ => rfl))) pa_nil)) pa_nil)))))))))), ?_⟩
  have c1 : ∀ (x : Nat) (σ : L2.St) (H : Hp) (N : Nat → Prop), N x → EvDn K pr a ns (tC (.int (x : Int))) σ H N := fun x σ H N hN => evdn_of (x := x) (fun _ _ => ev_c) hN
  refine q_asgTripD (K := K) (pr := pr) (a := a) (ns := ns) (N1 := fun x => 2 ≤ x ∧ x ≤ 7) (N2 := fun x => 1 ≤ x ∧ x ≤ 100) RA
    ((evdn_cadd (k := 2) (evd_taken (M := 6) (fun _ _ => ev_var rfl) (evdn_of (x := 6) (fun _ _ => ev_is (ev_op (ev_var (i := 1) (v := nV 7) rfl) ev_c (rv_I0 (g := fun i j => .int (i - j)))) rfl) ⟨by decide, by decide⟩) (by decide))).imp fun v H' _ ⟨y, ev, x, ey, hx⟩ => ⟨y, ev, by omega⟩)
    (evd_pick (l := 3) (fun _ _ => ev_var rfl) (evd_lst (eda_cons (c1 2 _ _ _ (by decide)) (eda_cons (c1 9 _ _ _ (by decide)) (eda_cons (c1 100 _ _ _ (by decide)) eda_nil))) (by decide)) (by decide) (by decide)) fun n big pR H1 hn hbig nR g1 hR => ?_
  have neR := RA.fresh nR
  refine q_forR2 (lo := 1) (n := (n : Int)) (ea_cons ev_c (ea_one (ev_var rfl))) ⟨by omega, by omega, by omega, by omega⟩ (fun i σ H' => ∃ (R : List Road) (ys : List V) (u6 u7 : Option V), σ = [some (.ref pr), some (nV 7), some (nV 5), some (nV n), some (nV big), some (.ref pR), u6, u7, none, none, none, none, none] ∧ G K pr a ns H H' ∧ H' pR = some (.lst ys) ∧ Rel RoadR H' R ys ∧ Rds (i + 1) R ∧ R.length = i)
    (fun H2 e2 => ⟨[], [], _, _, rfl, g1.grow e2, e2 _ _ hR, .nil, Rds.one, rfl⟩) ?_ ?_
  · rintro i σ H2 hi ⟨R, ys, u6, u7, rfl, g2, hR2, rel, rd, lR⟩
    have eb : V.int (1 + (i : Int)) = nV (i + 1) := by
      show V.int _ = V.int _
      rw [Int.natCast_add, Int.add_comm]
      rfl
    rw [eb]
    refine q_asgD (K := K) g2.row (evd_pick (N := fun x => x < i + 1) (l := 3) (fun _ _ => ev_var rfl) (evd_lst (eda_cons (evdn_of (x := i) (fun _ _ => ev_is (ev_op (ev_var (i := 6) (v := nV (i + 1)) rfl) ev_c (rv_I0 (g := fun i j => .int (i - j)))) (by
        show V.int (((i + 1 : Nat) : Int) - 1) = V.int (i : Int)
        rw [Int.natCast_add]
        show V.int ((i : Int) + 1 - 1) = _
        rw [Int.add_sub_cancel])) (Nat.lt_succ_self i)) (eda_cons (evd_taken (M := i + 1) (fun _ _ => ev_var rfl) (evdn_of (x := i + 1) (fun _ _ => ev_var rfl) ⟨by omega, Nat.le_refl _⟩) (by omega)) (eda_cons (c1 0 _ _ _ (by omega)) eda_nil))) (by decide)) (by decide) (by decide)) fun v H3 g3 ⟨x, ev, hx⟩ => ?_
    subst ev
    have hR3 := g3.keep _ _ neR hR2
    refine s_appD (K := K) (pr := pr) (a := a) (ns := ns) g3.row neR hR3 (ev_var rfl) (evd_trip (x := nV x) (y := nV (i + 1)) (N := fun z => 1 ≤ z ∧ z ≤ 100) (fun _ _ => ev_var rfl) (fun _ _ => ev_var rfl) ((evdn_cadd (k := 1) (evd_taken (M := 100) (fun _ _ => ev_var rfl)
        (evd_pick (N := fun z => 1 ≤ z ∧ z ≤ 100) (l := 2) (fun _ _ => ev_var rfl) (evd_lst (eda_cons (c1 3 _ _ _ (by decide)) (eda_cons (evdn_of (x := big) (fun _ _ => ev_var rfl) hbig) eda_nil)) (by decide)) (by decide) (by decide)) (by decide))).imp fun v H' _ ⟨y, ev, z, ey, hz⟩ => ⟨y, ev, by omega⟩)) (by rw [← rel.length]; omega) fun v H4 g4 ⟨t, z, ev, ht, hz⟩ hR4 => ?_
    subst ev
    have g34 := g3.trans g4
    have z2 : Rel RoadR H4 (R ++ [(x, i + 1, (z : Int))]) (ys ++ [.ref t]) := (Paired.mapP rel fun b v hb => RoadR.g g2.row g34 hb).snoc ⟨t, rfl, ht⟩
    refine ⟨_, _, _, _, rfl, (g2.trans g34).mut RA nR, upd_same, Paired.mapP z2 fun b v hb => stays_road.list b v H4 pR ys _ hR4 hb, rd.tree (by omega) hx hz.1 hz.2, by rw [List.length_append, lR]; rfl⟩
  · rintro σ H2 ⟨R, ys, u6, u7, rfl, g2, hR2, rel, rd, lR⟩
    have en : ((n : Int) - 1).toNat + 1 = n := by omega
    rw [en] at rd
    have lR6 : R.length ≤ 6 := by omega
    refine q_forRD (K := K) (pr := pr) (a := a) (ns := ns) (M := 6) g2.row (evd_taken (M := 6) (fun _ _ => ev_var rfl) (evdn_of (x := 6) (fun _ _ => ev_is (ev_op (ev_var (i := 2) (v := nV 5) rfl) ev_c (rv_I0 (g := fun i j => .int (i + j)))) rfl) ⟨by decide, by decide⟩) (by decide)) (by decide)
      (fun i σ H' => ∃ (R : List Road) (ys : List V) (u6 u7 u8 : Option V), σ = [some (.ref pr), some (nV 7), some (nV 5), some (nV n), some (nV big), some (.ref pR), u6, u7, u8, none, none, none, none] ∧ G K pr a ns H H' ∧ H' pR = some (.lst ys) ∧ Rel RoadR H' R ys ∧ Rds n R ∧ R.length ≤ 6 + i)
      (fun H3 g3 => ⟨R, ys, _, _, _, rfl, g2.trans g3, g3.keep _ _ neR hR2, Paired.mapP rel fun b v hb => RoadR.g g2.row g3 hb, rd, by omega⟩) ?_ ?_
    · rintro i σ H3 hi ⟨R, ys, u6, u7, u8, rfl, g3, hR3, rel, rd, lR⟩
      refine q_asgD (K := K) g3.row (evdn_cadd (k := 1) (evd_taken (M := n - 1) (fun _ _ => ev_var rfl) (evdn_of (x := n - 1) (fun _ _ => ev_is (ev_op (ev_var (i := 3) (v := nV n) rfl) ev_c (rv_I0 (g := fun i j => .int (i - j)))) (by
          show V.int ((n : Int) - 1) = V.int ((n - 1 : Nat) : Int)
          rw [Int.natCast_sub (by omega)]
          rfl)) ⟨by omega, Nat.le_refl _⟩) (by omega))) fun v H4 g4 ⟨b, ev, x0, eb, hx0⟩ => ?_
      subst ev
      refine q_asgD (K := K) g4.row (evd_taken (M := b) (fun _ _ => ev_var rfl) (evdn_of (x := b) (fun _ _ => ev_var rfl) ⟨by omega, Nat.le_refl _⟩) (by omega)) fun v H5 g5 ⟨x, ev, hx⟩ => ?_
      subst ev
      have g35 := g4.trans g5
      have hR5 := g35.keep _ _ neR hR3
      have rel5 : Rel RoadR H5 R ys := Paired.mapP rel fun b v hb => RoadR.g g3.row g35 hb
      have g05 := g3.trans g35
      have key := elP_lst (K := K) (R := PairR) (gt := gName 11) (tt := tYes) (te := tSl (rSlT K) (tVar 11) tNoPart (tPart (tC (.int 2)))) (vs := [11]) (σ := [some (.ref pr), some (nV 7), some (nV 5), some (nV n), some (nV big), some (.ref pR), some (nV b), some (nV x), some (nV i), none, none, none, none]) (H := H5) stays_pair (tl := tVar 5) (RA := RoadR) (as := R)
        (fun _ => true) id (evP_lst stays_road.mono (ev_var rfl) ⟨ys, hR5, rel5⟩) (by omega) fun r v H6 e6 hm hv => by
          obtain ⟨t, ev, ht⟩ := hv
          subst ev
          exact lcTurn_name rfl evT_yes fun _ => (EvU.n (eu_cut2 (K := K) (ev_var (i := 11) rfl) ev_c ht)).p
      rw [List.filter_eq_self.mpr fun _ _ => rfl, List.map_id] at key
      have tst : EvT (tTest (tOp (rNotInD K) (tTup (tCons (tVar 7) (tCons (tVar 6) tNil))) (tLc (iList K (tVar 5)) (gName 11) tYes (tSl (rSlT K) (tVar 11) tNoPart (tPart (tC (.int 2)))) [11]))) [some (.ref pr), some (nV 7), some (nV 5), some (nV n), some (nV big), some (.ref pR), some (nV b), some (nV x), some (nV i), none, none, none, none] H5 (!decide ((x, b) ∈ R.map fun r => (r.1, r.2.1))) :=
        et_test fun H6 e6 Q' q' => eu_tup (ea_cons (ev_var (v := nV x) rfl) (ea_one (ev_var (v := nV b) rfl))) (show (2 : Nat) ≤ 100000 by decide) H6 e6 _ fun p7 H7 n7 e7 h7 => key H7 (e6.trans e7) _ fun p8 H8 n8 e8 ⟨zs, h8, rz⟩ =>
          ⟨.tuple (([(x : Int), (b : Int)] : List Int).map PyData.int), _, .tup (st_of (e8 _ _ h7)) (.cons (.int _) (.cons (.int _) .nil)), .lst (sq_of h8) (dp_pairs rz), shaped_ti _, shaped_lt _, by
            have z := pair_any R (x, b, 0)
            rw [z]
            exact q' H8 (e7.trans e8)⟩
      refine s_when tst (fun hb H6 e6 => ?_) fun hb H6 e6 => ⟨R, ys, _, _, _, rfl, g05.grow e6, e6 _ _ hR5, rel5.mono stays_road.mono e6, rd, by omega⟩
      have hnew : (x, b) ∉ R.map fun r => (r.1, r.2.1) := by
        simp only [Bool.not_eq_true', decide_eq_false_iff_not] at hb
        exact hb
      have g06 := g05.grow e6
      refine s_appD (K := K) (pr := pr) (a := a) (ns := ns) g06.row neR (e6 _ _ hR5) (ev_var rfl) (evd_trip (x := nV x) (y := nV b) (N := fun z => 1 ≤ z ∧ z ≤ 100) (fun _ _ => ev_var rfl) (fun _ _ => ev_var rfl) ((evdn_cadd (k := 1) (evd_taken (M := 100) (fun _ _ => ev_var rfl)
          (evdn_of (x := big) (fun _ _ => ev_var rfl) hbig) (by decide))).imp fun v H' _ ⟨y, ev, z, ey, hz⟩ => ⟨y, ev, by omega⟩)) (by rw [← rel.length]; omega) fun v H7 g7 ⟨t, z, ev, ht, hz⟩ hR7 => ?_
      subst ev
      have z2 : Rel RoadR H7 (R ++ [(x, b, (z : Int))]) (ys ++ [.ref t]) := (Paired.mapP (rel5.mono stays_road.mono e6) fun b v hb => RoadR.g g06.row g7 hb).snoc ⟨t, rfl, ht⟩
      refine ⟨_, _, _, _, _, rfl, (g06.trans g7).mut RA nR, upd_same, Paired.mapP z2 fun b v hb => stays_road.list b v H7 pR ys _ hR7 hb, rd.extra hx (by omega) hnew hz.1 hz.2, by rw [List.length_append, List.length_singleton]; omega⟩
    · rintro i σ H3 hi ⟨R, ys, u6, u7, u8, rfl, g3, hR3, rel, rd, lR⟩
      have ly := rel.length
      refine q_asgD (K := K) g3.row (evd_order (m := R.length) (fun _ _ => ev_var rfl) (fun H4 g4 => ev_is (ev_lenL (ev_var (i := 5) rfl) (g4.keep _ _ neR hR3)) (by rw [ly])) (by omega)) fun v H4 g4 ⟨pO, l, ev, hO, pm⟩ => ?_
      subst ev
      have hR4 := g4.keep _ _ neR hR3
      have rel4 : Rel RoadR H4 R ys := Paired.mapP rel fun b v hb => RoadR.g g3.row g4 hb
      have g04 := g3.trans g4
      have neO := g04.row.neL hO
      refine q_asgD (K := K) g04.row (evd_lcN (n := n) (N := fun x => x < 101) (fun H5 g5 => ea_one (ev_var rfl)) (by omega) (fun _ => rfl) fun k H5 hk g5 => evd_taken (M := 101) (fun _ _ => ev_var rfl) (evd_pick (N := fun z => 1 ≤ z ∧ z ≤ 101) (l := 3) (fun _ _ => ev_var rfl) (evd_lst (eda_cons (c1 2 _ _ _ (by decide)) (eda_cons (c1 6 _ _ _ (by decide)) (eda_cons (c1 101 _ _ _ (by decide)) eda_nil))) (by decide)) (by decide) (by decide)) (by decide)) fun v H5 g5 ⟨pW, wl, ev, nW, hW, lw, hwl⟩ => ?_
      subst ev
      have nW0 := g04.fresh nW
      have hR5 := g5.keep _ _ neR hR4
      have rel5 : Rel RoadR H5 R ys := Paired.mapP rel4 fun b v hb => RoadR.g g04.row g5 hb
      have hO5 := g5.keep _ _ neO hO
      have g05 := g04.trans g5
      cases wl with
      | nil =>
        have : (0 : Nat) = n := lw
        omega
      | cons x0 t0 =>
        have hWz : H5 pW = some (.lst ((zN (x0 :: t0)).map V.int)) := by rw [zN_V]; exact hW
        refine q_setL (j := 0) hW (ev_op (ev_ixL (K := K) (i := 0) (v := nV x0) (ev_var rfl) ev_c hW rfl) (ev_if (b := decide ((zN (x0 :: t0)).sum = 0)) (v := .int (if (zN (x0 :: t0)).sum = 0 then 1 else 0)) (by
            have z := et_cmp (r := rEq) (ev_sumO (K := K) (te := tVar 10) (σ := [some (.ref pr), some (nV 7), some (nV 5), some (nV n), some (nV big), some (.ref pR), u6, u7, u8, some (.ref pO), some (.ref pW), none, none]) (ev_var rfl) hWz) ev_c (rv_eqI (i := (zN (x0 :: t0)).sum) (j := 0))
            rw [dec_int] at z
            exact z) (fun hb => ev_is ev_c (by rw [if_pos (of_decide_eq_true hb)])) fun hb => ev_is ev_c (by rw [if_neg (of_decide_eq_false hb)])) (rv_I0 (g := fun i j => .int (i + j)))) (ev_var rfl) ev_c (Nat.zero_lt_succ _) fun H6 e6 => ?_
        obtain ⟨w1, w2⟩ := wts_ok hwl
        generalize hws : (((x0 : Int) + if (zN (x0 :: t0)).sum = 0 then 1 else 0) :: zN t0) = ws at w1 w2
        have lws : ws.length = n := by
          rw [← hws, ← lw]
          unfold zN
          rw [List.length_cons, List.length_cons, List.length_map]
        have eset : ((x0 :: t0).map nV).set 0 (.int ((x0 : Int) + if (zN (x0 :: t0)).sum = 0 then 1 else 0)) = ws.map V.int := by
          rw [← hws]
          show (_ :: t0.map nV) = (_ :: (zN t0).map V.int)
          rw [zN_V]
        rw [eset]
        have g06 : G K pr a ns H (upd H6 pW (.lst (ws.map V.int))) := (g05.grow e6).mut RA nW0
        have hW6 : upd H6 pW (.lst (ws.map V.int)) pW = some (.lst (ws.map V.int)) := upd_same
        have neRW : pR ≠ pW := ne_of_none (o := .lst ys) (H := H4) hR4 nW
        have neOW : pO ≠ pW := ne_of_none hO nW
        have hR6 : upd H6 pW (.lst (ws.map V.int)) pR = some (.lst ys) := by rw [upd_ne neRW]; exact e6 _ _ hR5
        have hO6 : upd H6 pW (.lst (ws.map V.int)) pO = some (.lst (l.map nV)) := by rw [upd_ne neOW]; exact e6 _ _ hO5
        have rel6 : Rel RoadR (upd H6 pW (.lst (ws.map V.int))) R ys := Paired.mapP (rel5.mono stays_road.mono e6) fun b v hb => stays_road.list b v H6 pW _ _ (e6 _ _ hW) hb
        generalize upd H6 pW (.lst (ws.map V.int)) = H7 at g06 hW6 hR6 hO6 rel6 ⊢
        have key := elP_lst (K := K) (R := RoadR) (gt := gName 12) (tt := tYes) (te := tOp (rIxL K) (tVar 5) (tVar 12)) (vs := [12]) (σ := [some (.ref pr), some (nV 7), some (nV 5), some (nV n), some (nV big), some (.ref pR), u6, u7, u8, some (.ref pO), some (.ref pW), none, none]) (H := H7) stays_road (tl := tVar 9) (RA := fun x v _ => v = nV x) (as := l)
          (fun _ => true) (fun k => R.getD k (0, 0, 0)) (evP_lst same_mono (ev_var rfl) ⟨_, hO6, rel_nV l⟩) (by rw [pm.length_eq, List.length_range]; omega) fun k v H8 e8 hk hv => by
            subst hv
            have hkl : k < R.length := List.mem_range.mp (pm.mem_iff.mp hk)
            have hky : k < ys.length := by rw [← ly]; exact hkl
            obtain ⟨b, hb, hr⟩ := rel6.get (List.getElem?_eq_getElem hky)
            have eg : R.getD k (0, 0, 0) = b := by rw [List.getD_eq_getElem?_getD, hb]; rfl
            refine lcTurn_name rfl evT_yes fun _ => evP_of (ev_ixL (K := K) (i := k) (ev_var (i := 5) rfl) (ev_var (i := 12) rfl) (e8 _ _ hR6) (List.getElem?_eq_getElem hky)) fun H9 e9 => ?_
            rw [eg]
            exact stays_road.mono _ _ _ _ (e8.trans e9) hr
        rw [List.filter_eq_self.mpr fun _ _ => rfl] at key
        have pmR : (l.map fun k => R.getD k (0, 0, 0)).Perm R := by
          have z := pm.map (fun k => R.getD k ((0, 0, 0) : Road))
          rw [map_getD_range] at z
          exact z
        generalize (l.map fun k => R.getD k (0, 0, 0)) = R' at key pmR
        refine s_retN (evN_tup2 (PA := fun x H' => H' x = some (.tup (ws.map V.int))) (PB := fun y H' => ∃ zs, H' y = some (.tup zs) ∧ Rel RoadR H' R' zs) (fun _ _ _ e h => e _ _ h) (fun _ _ _ e ⟨zs, h1, h2⟩ => ⟨zs, e _ _ h1, h2.mono stays_road.mono e⟩) (evN_tupOld (K := K) (ev_var (i := 10) rfl) hW6)
          ((evN_tup (K := K) (PB := fun zs H' => Rel RoadR H' R' zs) key fun p H' _ ⟨zs, h1, h2⟩ => ⟨zs, h1, fun t nt => h2.mono stays_road.mono (Ex.new nt)⟩).imp fun p H' _ ⟨zs, h1, h2⟩ => ⟨zs, h1, h2⟩)) fun p H8 np e8 ⟨x, y, h1, h2, h3⟩ => ?_
        subst lws
        exact q p x y ws R' H8 (g06.grow e8) ⟨h1, h2, h3⟩ ((rd.perm pmR).web hn.1 hn.2 w1 w2 (by rw [pmR.length_eq]; omega))
end
end NH
namespace NH
open PySem L2 Evl
section
variable {P : Program} {w : World} {K : PySem.W.Frag} {mg : Str → Option Value} {base : Heap} {f : Addr} {fd : FuncData}
def spLHouses (K : PySem.W.Frag) : Sp := fun vs H Q _ => ∃ (pr a : Addr) (ns : List Int) (n : Nat), vs = [.ref pr, nV n] ∧ RowAt K pr a ns H ∧ 1 ≤ n ∧ n ≤ 60 ∧ ∀ p hs H', G K pr a ns H H' → H' p = some (.tup (hs.map nV)) → HsOk n hs → Q (.ref p) H'
theorem scLHouses : FnScope ["_law_row", "_law_count", "_law_found", "_law_k"] ["_law_row", "_law_count"] (defScope s_law_houses) := ⟨rfl, rfl, rfl, by decide +kernel, rfl, by decide +kernel, by decide +kernel⟩
theorem q_asgR {σ : L2.St} {H : Hp} {D : Ends} {tz : TS} {te : TE} {i : Nat} (h : te σ H fun v H1 => tz D (σ.set i (some v)) H1) : tSeq (tAsg te (gName i)) tz D σ H := h
theorem ok_lhouses (T : Txt K mg) (CT : Cl P w K mg base "_law_taken" 1 ["_law_row", "_law_many"] (spTaken K)) (F : Fun K "_law_houses" "_law_houses" s_law_houses f fd) : FnOk P w K mg base CX0 2 f fd ["_law_row", "_law_count"] (spLHouses K) := by
  refine F.ok scLHouses (fun vs H Q E h => ?_) (fun cdv A outer s H vs Q E hr h => ?_)
  · obtain ⟨_, _, _, _, rfl, _⟩ := h
    rfl
  obtain ⟨pr, a, ns, n, rfl, R, n1, n2, q⟩ := h
  refine ⟨_, pss_cons (ps_setLc (i := 2) (own := [("_law_k", 3)]) (g := gName 3) (tt := tTest (tOp rEq (tCall (spTaken K) [] E0 (tCons (tVar 0) (tCons (tC (.int 3)) tNil))) (tC (.int 0)))) (te := tVar 3) rfl scLHouses.nd rfl rfl (sw_true rfl rfl rfl (by decide +kernel))
      (pi_range1 (by rfl) T.b_range (pa_cons (pv 1) pa_nil)) (blkOk_by (by kernel_rfl)) (fun _ _ _ _ _ => pg_name (i := 3) scLHouses.nd rfl (Or.inl rfl)) (fun _ _ _ _ _ => pts_one (pt_cmpR op_eq (pe_cl CT hr (by rfl) (pa_cons (pv 0) (pa_cons pe_int pa_nil))) pe_int (nomark _))) (fun _ _ _ _ _ => pv 3))
    (pss_one (ps_ret (pe_ifExp (pt_cmpR (op_neD hr.units) (pv 2) (pe_lst pa_nil) (nomark _)) (pe_callTy call_tuple_of (by rfl) T.b_tuple (by decide +kernel) (pa_cons (pv 2) pa_nil)) (pe_tup (pa_cons (pe_cl CT hr (by rfl) (pa_cons (pv 0) (pa_cons (pv 1) pa_nil))) pa_nil))))), ?_⟩
  refine q_asgR ?_
  refine lcD (K := K) (pr := pr) (a := a) (ns := ns) (n := n) (fun i xs => xs.Pairwise (· < ·) ∧ ∀ x ∈ xs, x < i) (fun i xs h => nodup_length (h.1.imp fun {a b} q => by omega) h.2) R (ea_one (ev_var rfl)) (by omega) (fun _ => rfl) ⟨List.Pairwise.nil, fun x h => absurd h List.not_mem_nil⟩ (fun i xs H1 hi iv g1 Qy Qn qy qn => ?_) fun p xs H1 np g1 hp iv => ?_
  · refine evd_taken (K := K) (M := 3) (pr := pr) (a := a) (ns := ns) (fun _ _ => ev_var rfl) (evdn_of (x := 3) (fun _ _ => ev_c) ⟨by decide, by decide⟩) (by decide) H1 (.refl g1.row) _ fun v H2 g2 ⟨r, ev, hr⟩ => ?_
    subst ev
    show rEq (nV r) (.int 0) H2 fun x H' => ∃ k, x = .bl k ∧ (if k = true then tVar 3 [some (.ref pr), some (nV n), none, some (nV i)] H' Qy else Qn H')
    refine rv_eqI (i := (r : Int)) (j := 0) H2 (Ex.refl H2) _ fun H3 e3 => ⟨_, rfl, ?_⟩
    have g13 := g2.grow e3
    by_cases hd : V.int (r : Int) = V.int 0
    · rw [decide_eq_true hd, if_pos rfl]
      refine ⟨nV i, rfl, qy i H3 g13 ⟨List.pairwise_append.mpr ⟨iv.1, List.pairwise_singleton _ _, fun x hx y hy => ?_⟩, fun x hx => ?_⟩⟩
      · rw [List.mem_singleton.mp hy]
        exact iv.2 x hx
      · rcases mem_snoc hx with h | h
        · have := iv.2 x h
          omega
        · rw [h]
          exact Nat.lt_succ_self i
    · rw [decide_eq_false hd, if_neg (by decide)]
      exact qn H3 g13 ⟨iv.1, fun x hx => by have := iv.2 x hx; omega⟩
  · have hpz : H1 p = some (.lst ((zN xs).map V.int)) := by rw [zN_V]; exact hp
    have tst := et_test (ev_neL (K := K) (a := zN xs) (b := []) (σ := [some (.ref pr), some (nV n), some (.ref p), none]) (evP_ref (ev_var (i := 2) rfl) hpz) fun _ _ => evP_nil)
    refine tst H1 (Ex.refl H1) _ fun H2 e2 => ?_
    have g2 := g1.grow e2
    by_cases hd : zN xs = []
    · rw [decide_eq_true hd]
      refine evd_taken (K := K) (M := n) (pr := pr) (a := a) (ns := ns) (fun _ _ => ev_var rfl) (evdn_of (x := n) (fun _ _ => ev_var rfl) ⟨n1, Nat.le_refl _⟩) (by omega) H2 (.refl g2.row) _ fun v H3 g3 ⟨r, ev, hr⟩ => ?_
      subst ev
      exact ⟨one_line, fun t nt => q t [r] _ ((g2.trans g3).grow (Ex.new nt)) upd_same ⟨by simp, List.pairwise_singleton _ _, fun x hx => by rw [List.mem_singleton.mp hx]; exact hr⟩⟩
    · rw [decide_eq_false hd]
      refine evN_tupOld (K := K) (ev_var (i := 2) rfl) (e2 _ _ hp) H2 (Ex.refl H2) _ fun t H3 nt e3 ht => q t xs H3 (g2.grow e3) ht ⟨fun e => hd (by rw [e]; rfl), iv.1, iv.2⟩
end
end NH
namespace NH
open PySem L2 Evl
section
variable {P : Program} {w : World} {K : PySem.W.Frag} {mg : Str → Option Value} {base : Heap} {f : Addr} {fd : FuncData}
/-! ### the law's near and sum -/
def spLNear : Sp := fun vs H Q _ => ∃ pr ph rows hs, vs = [.ref pr, .ref ph] ∧ RowsAt H pr rows ∧ H ph = some (.tup (hs.map nV)) ∧ hs ≠ [] ∧ rows.length ≤ 1000 ∧ hs.length ≤ 1000 ∧ (∀ row ∈ rows, ∀ x ∈ hs, x < row.length) ∧
  ∀ p H', H p = none → Ex H H' → H' p = some (.lst ((near rows hs).map V.int)) → Q (.ref p) H'
theorem scLNear : FnScope ["_law_rows_here", "_law_houses_here", "_law_line", "_law_x"] ["_law_rows_here", "_law_houses_here"] (defScope s_law_near) := ⟨rfl, rfl, rfl, by decide +kernel, rfl, by decide +kernel, by decide +kernel⟩
theorem ok_lnear (T : Txt K mg) (F : Fun K "_law_near" "_law_near" s_law_near f fd) : FnOk P w K mg base CX0 1 f fd ["_law_rows_here", "_law_houses_here"] spLNear := by
  refine F.ok scLNear (fun vs H Q E h => ?_) (fun cdv A outer s H vs Q E hr h => ?_)
  · obtain ⟨_, _, _, _, rfl, _⟩ := h
    rfl
  obtain ⟨pr, ph, rows, hs, rfl, hR, hH, hne, hl1, hl2, hb, q⟩ := h
  refine ⟨_, pss_one (ps_ret (pe_lc (own := [("_law_line", 2)]) (g := gName 2) (tt := tYes) (te := tCB (rMin K) (tCons (tLc (iTup K (tVar 1)) (gName 3) tYes (tOp (rIxL K) (tVar 2) (tVar 3)) [3]) tNil)) rfl scLNear.nd (pi_list (pv 0)) (blkOk_by (by kernel_rfl)) (fun _ _ _ _ _ => pg_name (i := 2) scLNear.nd rfl (Or.inr rfl)) (fun _ _ _ _ _ => pts_nil)
      (fun _ _ _ _ _ => pe_callB (cr_min rfl) (by rfl) T.b_min (by decide +kernel) (pa_cons (pe_lc (own := [("_law_x", 3)]) (g := gName 3) (tt := tYes) rfl scLNear.nd (pi_tup (pv 1)) (blkOk_by (by kernel_rfl)) (fun _ _ _ _ _ => pg_name (i := 3) scLNear.nd rfl (Or.inl rfl)) (fun _ _ _ _ _ => pts_nil)
        (fun _ _ _ _ _ => pe_ix ix_list (pv 2) (pv 3) (fun _ _ => rfl))) pa_nil)))), ?_⟩
  exact s_retN (near_read hR hne hl1 hb fun σ H1 G v e te vs gt ht => elP_tup Stays.int same_mono (fun _ => true) G (evP_tup same_mono (ev_var v) (e _ _ hH) (rel_nV hs)) (by omega) fun x v H2 e2 hm hv => by
      subst hv
      exact ht x H2 e2 hm) fun p H1 hn e hp => q p H1 hn e hp
theorem cost_range {ws : List Int} {rows : List (List Int)} {hs : List Nat} (h : ws.length = rows.length) : ((List.range ws.length).map fun k => ws.getD k 0 * (near rows hs).getD k 0).sum = cost ws rows hs := by
  unfold cost
  congr 1
  have hl : (near rows hs).length = ws.length := by rw [near_len, h]
  refine List.ext_getElem (by rw [List.length_map, List.length_range, List.length_map, List.length_zip, hl, Nat.min_self]) fun i h1 h2 => ?_
  have hi : i < ws.length := by rw [List.length_map, List.length_range] at h1; exact h1
  rw [List.getElem_map, List.getElem_range, List.getElem_map, List.getElem_zip, List.getD_eq_getElem?_getD, List.getD_eq_getElem?_getD, List.getElem?_eq_getElem hi, List.getElem?_eq_getElem (show i < (near rows hs).length by rw [hl]; exact hi)]
  rfl
def spLSum : Sp := fun vs H Q _ => ∃ p pw pr pT ph ws rs rows hs, vs = [.ref p, .ref pT, .ref ph] ∧ WebAt H p pw pr ws rs ∧ RowsAt H pT rows ∧ H ph = some (.tup (hs.map nV)) ∧ TabM ws rows ∧ hs ≠ [] ∧ hs.length ≤ 1000 ∧ (∀ x ∈ hs, x < ws.length) ∧
  ∀ H', Ex H H' → Q (.int (cost ws rows hs)) H'
theorem scLSum : FnScope ["_law_web_here", "_law_rows_here", "_law_houses_here", "_law_near_here", "_law_k"] ["_law_web_here", "_law_rows_here", "_law_houses_here"] (defScope s_law_sum_by) := ⟨rfl, rfl, rfl, by decide +kernel, rfl, by decide +kernel, by decide +kernel⟩
theorem ok_lsum (T : Txt K mg) (C : Cl P w K mg base "_law_near" 1 ["_law_rows_here", "_law_houses_here"] spLNear) (F : Fun K "_law_sum_by" "_law_sum_by" s_law_sum_by f fd) : FnOk P w K mg base CX0 2 f fd ["_law_web_here", "_law_rows_here", "_law_houses_here"] spLSum := by
  refine F.ok scLSum (fun vs H Q E h => ?_) (fun cdv A outer s H vs Q E hr h => ?_)
  · obtain ⟨_, _, _, _, _, _, _, _, _, rfl, _⟩ := h
    rfl
  obtain ⟨p, pw, pr, pT, ph, ws, rs, rows, hs, rfl, hW, hT, hH, tm, hne, hl, hb, q⟩ := h
  refine ⟨_, pss_cons (ps_set (i := 3) scLSum.nd rfl (Or.inr rfl) (pe_cl C hr (by rfl) (pa_cons (pv 1) (pa_cons (pv 2) pa_nil))))
    (pss_one (ps_ret (pe_callB (cr_sum rfl) (by rfl) T.b_sum (by decide +kernel) (pa_cons
      (pe_lc (own := [("_law_k", 4)]) (g := gName 4) (tt := tYes) (te := tOp (rI CMul fun i j => .int (i * j)) (tOp (rIxT K) (tOp (rIxT K) (tVar 0) (tC (.int 0))) (tVar 4)) (tOp (rIxL K) (tVar 3) (tVar 4))) rfl scLSum.nd
        (pi_range1 (by rfl) T.b_range (pa_cons (pe_callB call_len_seq (by rfl) T.b_len PySem.boot_len (pa_cons (pv 3) pa_nil)) pa_nil)) (blkOk_by (by kernel_rfl)) (fun _ _ _ _ _ => pg_name (i := 4) scLSum.nd rfl (Or.inl rfl)) (fun _ _ _ _ _ => pts_nil)
        (fun _ _ _ _ _ => pe_op op_mul (pe_ix ix_tup (pe_ix ix_tup (pv 0) pe_int (fun _ _ => rfl)) (pv 4) (fun _ _ => rfl)) (pe_ix ix_list (pv 3) (pv 4) (fun _ _ => rfl)))) pa_nil)))), ?_⟩
  have n7 := tm.n7
  have lr := tm.sq.1
  refine q_asgN (evN_call (P := fun p H' => H' p = some (.lst ((near rows hs).map V.int))) (ea_cons (ev_var (i := 1) (v := .ref pT) rfl) (ea_one (ev_var (i := 2) (v := .ref ph) rfl))) fun H1 e1 Q' q' => ⟨pT, ph, rows, hs, rfl, hT.mono e1, e1 _ _ hH, hne, by omega, hl, fun row hr x hx => by rw [tm.sq.2 row hr]; exact hb x hx, fun p2 H2 n2 e2 h2 => q' p2 H2 n2 e2 h2⟩) fun pN H1 n1 e1 hN => ?_
  have hW1 := hW.mono e1
  have ln : (near rows hs).length = ws.length := by rw [near_len, lr]
  have key := elP_rng1 (R := fun (b : Int) v _ => v = .int b) (gt := gName 4) (tt := tYes) (te := tOp (rI CMul fun i j => .int (i * j)) (tOp (rIxT K) (tOp (rIxT K) (tVar 0) (tC (.int 0))) (tVar 4)) (tOp (rIxL K) (tVar 3) (tVar 4))) (vs := [4]) (σ := [some (.ref p), some (.ref pT), some (.ref ph), some (.ref pN), none]) (H := H1) Stays.int (n := (ws.length : Int)) (ta := tCons (tCB (rLenQ K) (tCons (tVar 3) tNil)) tNil)
    (fun _ => true) (fun k => ws.getD k 0 * (near rows hs).getD k 0) (ea_one (ev_is (ev_lenL (ev_var rfl) hN) (by rw [List.length_map, ln]))) ⟨by omega, by omega⟩ fun k H2 e2 hk => by
      have hk1 : k < ws.length := by omega
      have hw := tm.wt (ws.getD k 0) (by rw [List.getD_eq_getElem?_getD, List.getElem?_eq_getElem hk1]; exact List.getElem_mem hk1)
      have hW2 := hW1.mono e2
      exact lcTurn_name rfl evT_yes fun _ => ev_p (ev_op (ev_ixT (K := K) (i := k) (ev_ixT (K := K) (i := 0) (ev_var (i := 0) rfl) ev_c hW2.web rfl) (ev_var (i := 4) rfl) hW2.wts (ix_int hk1)) (ev_ixL (K := K) (i := k) (ev_var (i := 3) rfl) (ev_var (i := 4) rfl) (e2 _ _ hN) (ix_int (by rw [ln]; exact hk1))) (rv_I (.inl ⟨by omega, by omega⟩)))
  have tn : ((ws.length : Int)).toNat = ws.length := Int.toNat_natCast _
  rw [tn] at key
  have k2 : EvN _ _ _ _ := key.imp fun p H' _ h => h.ints
  refine s_ret (ev_is (ev_sumN (K := K) k2) (by
    have z := cost_range (hs := hs) lr.symm
    unfold gives
    rw [List.filter_eq_self.mpr fun _ _ => rfl, z])) fun H2 e2 => q H2 (e1.trans e2)
/-! ### alike -/
def AlV : Nat → V → V → Hp → Prop
  | 0, x, y, _ => (∃ b, x = .bl b ∧ y = .bl b) ∨ ∃ i, x = .int i ∧ y = .int i
  | n + 1, x, y, H => AlV n x y H ∨ ∃ p q xs ys, x = .ref p ∧ y = .ref q ∧ H p = some (.tup xs) ∧ H q = some (.tup ys) ∧ xs.length = ys.length ∧ xs.length ≤ 1000 ∧ ∀ (i : Nat) u v, xs[i]? = some u → ys[i]? = some v → AlV n u v H
theorem AlV.mono : ∀ (n : Nat) {x y : V} {H H' : Hp}, Ex H H' → AlV n x y H → AlV n x y H'
  | 0, _, _, _, _, _, h => h
  | n + 1, _, _, _, _, e, h => h.imp (AlV.mono n e) fun ⟨p, q, xs, ys, h1, h2, h3, h4, h5, h6, h7⟩ => ⟨p, q, xs, ys, h1, h2, e _ _ h3, e _ _ h4, h5, h6, fun i u v hu hv => AlV.mono n e (h7 i u v hu hv)⟩
theorem AlV.leaf : ∀ (n : Nat) {x y : V} {H : Hp}, AlV 0 x y H → AlV n x y H
  | 0, _, _, _, h => h
  | n + 1, _, _, _, h => .inl (AlV.leaf n h)
theorem AlV.cases : ∀ (n : Nat) {x y : V} {H : Hp}, AlV n x y H → AlV 0 x y H ∨ ∃ m, m < n ∧ ∃ p q xs ys, x = .ref p ∧ y = .ref q ∧ H p = some (.tup xs) ∧ H q = some (.tup ys) ∧ xs.length = ys.length ∧ xs.length ≤ 1000 ∧ ∀ (i : Nat) u v, xs[i]? = some u → ys[i]? = some v → AlV m u v H
  | 0, _, _, _, h => .inl h
  | n + 1, _, _, _, .inl h => (AlV.cases n h).imp id fun ⟨m, hm, r⟩ => ⟨m, by omega, r⟩
  | n + 1, _, _, _, .inr h => .inr ⟨n, Nat.lt_succ_self n, h⟩
theorem AlV.up {m n : Nat} (h : m ≤ n) {x y : V} {H : Hp} (a : AlV m x y H) : AlV n x y H := by
  obtain ⟨k, rfl⟩ := Nat.le.dest h
  induction k with
  | zero => exact a
  | succ k ih => exact .inl (ih (by omega))
end
end NH
namespace NH
open PySem L2 Evl
section
variable {P : Program} {w : World} {K : PySem.W.Frag} {mg : Str → Option Value} {base : Heap} {f : Addr} {fd : FuncData}
def spAl (n : Nat) : Sp := fun vs H Q _ => ∃ x y, vs = [x, y] ∧ AlV n x y H ∧ ∀ H', Ex H H' → Q (.bl true) H'
theorem scAl : FnScope ["_law_found", "_law_due", "_law_k"] ["_law_found", "_law_due"] (defScope s_law_alike) := ⟨rfl, rfl, rfl, by decide +kernel, rfl, by decide +kernel, by decide +kernel⟩
theorem kit_two {a : String} {b1 b2 : Bool} (h1 : kitB a "tuple" = some b1) (h2 : kitB a "list" = some b2) : PySem.W.kitAny K (.type a) [.type "tuple", .type "list"] = some (b1 || b2) := by
  refine kitAny_cons (b := b1) (kit_ty h1) (fun e => ?_) fun e => by rw [e]; rfl
  subst e
  refine kitAny_cons (b := b2) (kit_ty h2) (fun e => ?_) fun e => by rw [e]; rfl
  subst e
  rfl
abbrev tTL : TE := tTup (tCons (tC (.ty "tuple")) (tCons (tC (.ty "list")) tNil))
theorem ev_isiT {σ : L2.St} {H : Hp} {te : TE} {x : V} {a : String} {b1 b2 b : Bool} (hx : Ev te σ H x) (ty : ∀ H1, Ex H H1 → TyOf K H1 x (.type a)) (h1 : kitB a "tuple" = some b1) (h2 : kitB a "list" = some b2) (hb : (b1 || b2) = b) : Ev (tCB (rIsiT K) (tCons te (tCons tTL tNil))) σ H (.bl b) := fun H1 e Q q =>
  hx H1 e _ fun H2 e2 => ⟨two_line, fun tp np => ⟨x, tp, _, _, _, b, rfl, upd_same, .cons (.ty _) (.cons (.ty _) .nil), .base (ty _ ((e.trans e2).trans (Ex.new np))), by rw [← hb]; exact kit_two h1 h2, q _ (e2.trans (Ex.new np))⟩⟩
theorem al_leaf {x y : V} {H : Hp} {Q : VK} {tv : TS} (h : AlV 0 x y H) (q : ∀ H', Ex H H' → Q (.bl true) H') :
    tSeq (tIfS (tB (tCB (rIsiT K) (tCons (tVar 1) (tCons tTL tNil)))) tNever tNext) (tSeq (tIfS (tOr (tTest (tOp rIsNn (tVar 1) (tC .non))) (tB (tCB (rIsi K) (tCons (tVar 1) (tCons (tC (.ty "str")) tNil))))) tNever tNext)
      (tRet (tAndV (tCB (rIsi K) (tCons (tVar 0) (tCons (tC (.ty "int")) tNil))) (tAndV (tOp rEq (tCB (rIsi K) (tCons (tVar 0) (tCons (tC (.ty "bool")) tNil))) (tCB (rIsi K) (tCons (tVar 1) (tCons (tC (.ty "bool")) tNil)))) (tOp rEq (tVar 0) (tVar 1))))))
      { nx := fun _ H' => Q .non H', rt := Q } [some x, some y, none] H := by
  rcases h with ⟨b, rfl, rfl⟩ | ⟨i, rfl, rfl⟩
  · refine q_guard (et_B (ev_isiT (K := K) (ev_var (v := .bl b) rfl) ty_bl (b1 := false) (b2 := false) (by decide +kernel) (by decide +kernel) rfl)) fun H1 e1 => ?_
    refine q_guard (et_is (b := false) (et_or (et_test (b := false) (ev_op (ev_var (v := .bl b) rfl) ev_c fun H4 e4 Q' q' => ⟨rfl, q' H4 (Ex.refl H4)⟩)) fun _ => et_B (ev_isi (K := K) (b := false) (ev_var (v := .bl b) rfl) ev_c ty_bl (by decide +kernel))) rfl) fun H2 e2 => ?_
    exact s_ret (ev_is (ev_andV (ev_isi (K := K) (b := true) (ev_var (v := .bl b) rfl) ev_c ty_bl (by decide +kernel)) fun _ => ev_andV (ev_op (ev_isi (K := K) (b := true) (ev_var (v := .bl b) rfl) ev_c ty_bl (by decide +kernel)) (ev_isi (K := K) (b := true) (ev_var (v := .bl b) rfl) ev_c ty_bl (by decide +kernel)) (rv_eq rfl)) fun _ => ev_op (ev_var (v := .bl b) rfl) (ev_var (v := .bl b) rfl) (rv_eq rfl)) (by rw [decide_eq_true rfl, decide_eq_true rfl]; rfl)) fun H3 e3 => q H3 (e1.trans (e2.trans e3))
  · refine q_guard (et_B (ev_isiT (K := K) (ev_var (v := .int i) rfl) ty_int (b1 := false) (b2 := false) (by decide +kernel) (by decide +kernel) rfl)) fun H1 e1 => ?_
    refine q_guard (et_is (b := false) (et_or (et_test (b := false) (ev_op (ev_var (v := .int i) rfl) ev_c fun H4 e4 Q' q' => ⟨rfl, q' H4 (Ex.refl H4)⟩)) fun _ => et_B (ev_isi (K := K) (b := false) (ev_var (v := .int i) rfl) ev_c ty_int (by decide +kernel))) rfl) fun H2 e2 => ?_
    exact s_ret (ev_is (ev_andV (ev_isi (K := K) (b := true) (ev_var (v := .int i) rfl) ev_c ty_int (by decide +kernel)) fun _ => ev_andV (ev_op (ev_isi (K := K) (b := false) (ev_var (v := .int i) rfl) ev_c ty_int (by decide +kernel)) (ev_isi (K := K) (b := false) (ev_var (v := .int i) rfl) ev_c ty_int (by decide +kernel)) (rv_eq rfl)) fun _ => ev_op (ev_var (v := .int i) rfl) (ev_var (v := .int i) rfl) (rv_eq rfl)) (by rw [decide_eq_true rfl, decide_eq_true rfl]; rfl)) fun H3 e3 => q H3 (e1.trans (e2.trans e3))
theorem ok_al0 (T : Txt K mg) (F : Fun K "_law_alike" "_law_alike" s_law_alike f fd) : FnOk P w K mg base CX0 1 f fd ["_law_found", "_law_due"] (spAl 0) := by
  refine F.ok scAl (fun vs H Q E h => ?_) (fun cdv A outer s H vs Q E hr h => ?_)
  · obtain ⟨_, _, rfl, _⟩ := h
    rfl
  obtain ⟨x, y, rfl, hA, q⟩ := h
  refine ⟨_, pss_cons (ps_if (pt_val (pe_callB call_isiT (by rfl) T.b_isinstance (by decide +kernel) (pa_cons (pv 1) (pa_cons (pe_tup (pa_cons (pe_bltn (by rfl) T.b_tuple (by decide +kernel) (v := .ty "tuple") rfl) (pa_cons (pe_bltn (by rfl) T.b_list (by decide +kernel) (v := .ty "list") rfl) pa_nil))) pa_nil)))) pss_never pss_nil)
    (pss_cons (ps_if (PW.pt (pw_or (pt_cmpR op_isN (pv 1) pe_non (nomark _)) (pw_or1 (pt_val (pe_callB call_isi (by rfl) T.b_isinstance (by decide +kernel) (pa_cons (pv 1) (pa_cons (pe_bltn (by rfl) T.b_str (by decide +kernel) (v := .ty "str") rfl) pa_nil))))))) pss_never pss_nil)
    (pss_one (ps_ret (pe_and (pe_callB call_isi (by rfl) T.b_isinstance (by decide +kernel) (pa_cons (pv 0) (pa_cons (pe_bltn (by rfl) T.b_int (by decide +kernel) (v := .ty "int") rfl) pa_nil)))
      (pe_and (pe_cmpR op_eq (pe_callB call_isi (by rfl) T.b_isinstance (by decide +kernel) (pa_cons (pv 0) (pa_cons (pe_bltn (by rfl) T.b_bool (by decide +kernel) (v := .ty "bool") rfl) pa_nil))) (pe_callB call_isi (by rfl) T.b_isinstance (by decide +kernel) (pa_cons (pv 1) (pa_cons (pe_bltn (by rfl) T.b_bool (by decide +kernel) (v := .ty "bool") rfl) pa_nil))) (nomark _))
        (pe_one (pe_cmpR op_eq (pv 0) (pv 1) (nomark _)))))))), ?_⟩
  exact al_leaf (K := K) (tv := tNext) hA q
theorem ok_alS {n k : Nat} (T : Txt K mg) (C : Cl P w K mg base "_law_alike" k ["_law_found", "_law_due"] (spAl n)) (F : Fun K "_law_alike" "_law_alike" s_law_alike f fd) : FnOk P w K mg base CX0 (k + 1) f fd ["_law_found", "_law_due"] (spAl (n + 1)) := by
  refine F.ok scAl (fun vs H Q E h => ?_) (fun cdv A outer s H vs Q E hr h => ?_)
  · obtain ⟨_, _, rfl, _⟩ := h
    rfl
  obtain ⟨x, y, rfl, hA, q⟩ := h
  rcases AlV.cases (n + 1) hA with hA | ⟨m, hm, p, pd, xs, ys, rfl, rfl, h1, h2, hl, hz, hel⟩
  · refine ⟨_, pss_cons (ps_if (pt_val (pe_callB call_isiT (by rfl) T.b_isinstance (by decide +kernel) (pa_cons (pv 1) (pa_cons (pe_tup (pa_cons (pe_bltn (by rfl) T.b_tuple (by decide +kernel) (v := .ty "tuple") rfl) (pa_cons (pe_bltn (by rfl) T.b_list (by decide +kernel) (v := .ty "list") rfl) pa_nil))) pa_nil)))) pss_never pss_nil)
      (pss_cons (ps_if (PW.pt (pw_or (pt_cmpR op_isN (pv 1) pe_non (nomark _)) (pw_or1 (pt_val (pe_callB call_isi (by rfl) T.b_isinstance (by decide +kernel) (pa_cons (pv 1) (pa_cons (pe_bltn (by rfl) T.b_str (by decide +kernel) (v := .ty "str") rfl) pa_nil))))))) pss_never pss_nil)
      (pss_one (ps_ret (pe_and (pe_callB call_isi (by rfl) T.b_isinstance (by decide +kernel) (pa_cons (pv 0) (pa_cons (pe_bltn (by rfl) T.b_int (by decide +kernel) (v := .ty "int") rfl) pa_nil)))
        (pe_and (pe_cmpR op_eq (pe_callB call_isi (by rfl) T.b_isinstance (by decide +kernel) (pa_cons (pv 0) (pa_cons (pe_bltn (by rfl) T.b_bool (by decide +kernel) (v := .ty "bool") rfl) pa_nil))) (pe_callB call_isi (by rfl) T.b_isinstance (by decide +kernel) (pa_cons (pv 1) (pa_cons (pe_bltn (by rfl) T.b_bool (by decide +kernel) (v := .ty "bool") rfl) pa_nil))) (nomark _))
          (pe_one (pe_cmpR op_eq (pv 0) (pv 1) (nomark _)))))))), ?_⟩
    exact al_leaf (K := K) (tv := tNext) hA q
  · refine ⟨_, pss_cons (ps_if (pt_val (pe_callB call_isiT (by rfl) T.b_isinstance (by decide +kernel) (pa_cons (pv 1) (pa_cons (pe_tup (pa_cons (pe_bltn (by rfl) T.b_tuple (by decide +kernel) (v := .ty "tuple") rfl) (pa_cons (pe_bltn (by rfl) T.b_list (by decide +kernel) (v := .ty "list") rfl) pa_nil))) pa_nil))))
        (pss_cons (ps_if (PW.pt (pw_or (pt_not (pt_val (pe_callB call_isiT (by rfl) T.b_isinstance (by decide +kernel) (pa_cons (pv 0) (pa_cons (pe_tup (pa_cons (pe_bltn (by rfl) T.b_tuple (by decide +kernel) (v := .ty "tuple") rfl) (pa_cons (pe_bltn (by rfl) T.b_list (by decide +kernel) (v := .ty "list") rfl) pa_nil))) pa_nil)))))
            (pw_or1 (pt_cmpR op_ne (pe_callB call_isi (by rfl) T.b_isinstance (by decide +kernel) (pa_cons (pv 0) (pa_cons (pe_bltn (by rfl) T.b_list (by decide +kernel) (v := .ty "list") rfl) pa_nil))) (pe_callB call_isi (by rfl) T.b_isinstance (by decide +kernel) (pa_cons (pv 1) (pa_cons (pe_bltn (by rfl) T.b_list (by decide +kernel) (v := .ty "list") rfl) pa_nil))) (nomark _))))) pss_never pss_nil)
        (pss_cons (ps_if (pt_cmpR op_ne (pe_callB call_len_seq (by rfl) T.b_len PySem.boot_len (pa_cons (pv 0) pa_nil)) (pe_callB call_len_seq (by rfl) T.b_len PySem.boot_len (pa_cons (pv 1) pa_nil)) (nomark _)) pss_never pss_nil)
        (pss_one (ps_ret (pe_cmpR (op_eqD hr.units) (pe_lc (own := [("_law_k", 2)]) (g := gName 2) (tt := tNot (tB (tCall (spAl n) [] E0 (tCons (tOp (rIxT K) (tVar 0) (tVar 2)) (tCons (tOp (rIxT K) (tVar 1) (tVar 2)) tNil))))) (te := tVar 2) rfl scAl.nd
          (pi_range1 (by rfl) T.b_range (pa_cons (pe_callB call_len_seq (by rfl) T.b_len PySem.boot_len (pa_cons (pv 1) pa_nil)) pa_nil)) (blkOk_by (by kernel_rfl)) (fun _ _ _ _ _ => pg_name (i := 2) scAl.nd rfl (Or.inl rfl))
          (fun _ _ _ _ _ => pts_one (pt_not (pt_val (pe_cl C hr (by rfl) (pa_cons (pe_ix ix_tup (pv 0) (pv 2) (fun _ _ => rfl)) (pa_cons (pe_ix ix_tup (pv 1) (pv 2) (fun _ _ => rfl)) pa_nil)))))) (fun _ _ _ _ _ => pv 2)) (pe_lst pa_nil) (nomark _)))))) pss_nil)
      pss_never, ?_⟩
    refine q_when (et_B (ev_isiT (K := K) (b := true) (ev_var (v := .ref pd) rfl) (ty_tup h2) (b1 := true) (b2 := false) (by decide +kernel) (by decide +kernel) rfl)) (fun _ H1 e1 => ?_) (fun z => by cases z)
    have h11 := e1 _ _ h1
    have h21 := e1 _ _ h2
    refine q_guard (et_is (b := false) (et_or (et_not (et_B (ev_isiT (K := K) (b := true) (ev_var (v := .ref p) rfl) (ty_tup h11) (b1 := true) (b2 := false) (by decide +kernel) (by decide +kernel) rfl)))
      fun _ => et_cmp (ev_isi (K := K) (b := false) (ev_var (v := .ref p) rfl) ev_c (ty_tup h11) (by decide +kernel)) (ev_isi (K := K) (b := false) (ev_var (v := .ref pd) rfl) ev_c (ty_tup h21) (by decide +kernel)) (rv_ne rfl)) (by rw [decide_eq_true rfl]; rfl)) fun H2 e2 => ?_
    refine q_guard (et_is (b := false) (et_cmp (ev_lenT (K := K) (ev_var (v := .ref p) rfl) (e2 _ _ h11)) (ev_lenT (K := K) (ev_var (v := .ref pd) rfl) (e2 _ _ h21)) (rv_ne rfl)) (by rw [hl, decide_eq_true rfl]; rfl)) fun H3 e3 => ?_
    have e13 := e1.trans (e2.trans e3)
    have h13 := e13 _ _ h1
    have h23 := e13 _ _ h2
    have key := elP_rng1 (R := fun (b : Int) v _ => v = .int b) (gt := gName 2) (tt := tNot (tB (tCall (spAl n) [] E0 (tCons (tOp (rIxT K) (tVar 0) (tVar 2)) (tCons (tOp (rIxT K) (tVar 1) (tVar 2)) tNil))))) (te := tVar 2) (vs := [2]) (σ := [some (.ref p), some (.ref pd), none]) (H := H3) Stays.int (n := (ys.length : Int)) (ta := tCons (tCB (rLenQ K) (tCons (tVar 1) tNil)) tNil)
      (fun _ => false) (fun k => (k : Int)) (ea_one (ev_lenT (ev_var rfl) h23)) ⟨by omega, by omega⟩ fun k H4 e4 hk => by
        have hk1 : k < ys.length := by omega
        have hk2 : k < xs.length := by omega
        have a1 : xs[k]? = some xs[k] := List.getElem?_eq_getElem hk2
        have a2 : ys[k]? = some ys[k] := List.getElem?_eq_getElem hk1
        have al := (hel k _ _ a1 a2).up (show m ≤ n by omega)
        exact lcTurn_name rfl (et_not (et_B (ev_cl (v := .bl true) (ea_cons (ev_ixT (K := K) (i := k) (ev_var (i := 0) rfl) (ev_var (i := 2) rfl) (e4 _ _ h13) a1) (ea_one (ev_ixT (K := K) (i := k) (ev_var (i := 1) rfl) (ev_var (i := 2) rfl) (e4 _ _ h23) a2))) fun H5 e5 Q' q' => ⟨_, _, rfl, al.mono n ((e13.trans e4).trans e5), q'⟩))) fun z => by cases z
    have eg : gives ((ys.length : Int)).toNat (fun _ => false) (fun k => (k : Int)) = [] := by
      unfold gives
      rw [List.filter_eq_nil_iff.mpr fun _ _ => by decide]
      rfl
    rw [eg] at key
    have k2 := (key.imp fun p H' _ h => h.ints).p
    exact s_ret (ev_is (ev_eqL (K := K) (a := []) (b := []) k2 fun _ _ => evP_nil) (by rw [decide_eq_true rfl])) fun H4 e4 => q H4 (e13.trans e4)
end
end NH
namespace NH
open PySem L2 Evl
/-! ### the plain law -/
theorem sumLen_le : ∀ {R : List Road}, (∀ r ∈ R, r.2.2 ≤ 100) → sumLen R ≤ 100 * (R.length : Int)
  | [], _ => by decide
  | r :: t, h => by
    have h1 := sumLen_le (R := t) fun x hx => h x (List.mem_cons_of_mem _ hx)
    have h2 := h r List.mem_cons_self
    unfold sumLen at h1 ⊢
    rw [List.map_cons, List.sum_cons, List.length_cons]
    omega
theorem lawRows_eq {ws : List Int} {rs : List Road} (h : WebOk ws rs) : lawRows ws.length rs = table ws.length rs := by
  have hs := sumLen_le h.most
  have hl := h.len
  obtain ⟨s1, x1⟩ := lawRows_exact h.rd fun i j hi hj => by
    obtain ⟨L, w, hL⟩ := h.ways i j hi hj
    exact ⟨L, w, by omega⟩
  obtain ⟨s2, x2⟩ := h.tab
  exact Sq.ext s1 s2 fun i j hi hj => Exact.eq x1 x2 hi hj
/-- all choices of k points of n -/
def cand (n k : Nat) : List (List Nat) := ((List.range (2 ^ n)).map fun N => mem N n).filter fun h => decide (h.length = k)
theorem cand_few : ∀ n < 8, ∀ k < 8, (cand n k).length ≤ 35 := by decide +kernel
section
variable {ws : List Int} {rows : List (List Int)}
theorem sixty (tm : TabM ws rows) {hs : List Nat} (ok : HsOk ws.length hs) : better ws rows (itr (stp ws rows) 60 hs) = [] := by
  apply Classical.byContradiction
  intro hne
  have all : ∀ t, t ≤ 60 → better ws rows (itr (stp ws rows) t hs) ≠ [] := fun t ht e => hne (by
    have z := itr_add (stp ws rows) hs t (60 - t)
    rw [show 60 - t + t = 60 by omega] at z
    rw [z, itr_fix _ _ (stp_fix e), e])
  have dec : ∀ d t, t + (d + 1) ≤ 61 → cost ws rows (itr (stp ws rows) (t + (d + 1)) hs) < cost ws rows (itr (stp ws rows) t hs) := by
    intro d
    induction d with
    | zero => exact fun t ht => stp_lt (itr_ok ok t).1 (all t (by omega))
    | succ d ih =>
      intro t ht
      have h1 := ih t (by omega)
      have h2 : cost ws rows (itr (stp ws rows) (t + (d + 1) + 1) hs) < cost ws rows (itr (stp ws rows) (t + (d + 1)) hs) := stp_lt (itr_ok ok _).1 (all _ (by omega))
      exact Int.lt_trans h2 h1
  have nd : ((List.range 61).map fun t => itr (stp ws rows) t hs).Nodup := by
    refine List.pairwise_map.mpr (List.pairwise_lt_range.imp_of_mem fun {a b} ha hb hab e => ?_)
    have hb' := List.mem_range.mp hb
    have z := dec (b - a - 1) a (by omega)
    rw [show a + (b - a - 1 + 1) = b by omega, ← e] at z
    omega
  have sub := sub_len (m := cand ws.length hs.length) nd fun x hx => by
    obtain ⟨t, _, rfl⟩ := List.mem_map.mp hx
    obtain ⟨o1, o2⟩ := itr_ok (rows := rows) ok t
    obtain ⟨N, n1, n2, e⟩ := mem_all o1
    exact List.mem_filter.mpr ⟨List.mem_map.mpr ⟨N, List.mem_range.mpr n2, e.symm⟩, decide_eq_true o2⟩
  rw [List.length_map, List.length_range] at sub
  have n7 := tm.n7
  have := ok.len
  have := cand_few ws.length (by omega) hs.length (by omega)
  omega
theorem five_cost (tm : TabM ws rows) {h g : List Nat} (oh : HsOk ws.length h) (og : HsOk ws.length g) (hl : h.length = g.length) (hb : better ws rows h = []) : cost ws rows h ≤ 5 * cost ws rows g := by
  rw [cost_eq tm.sq, cost_eq tm.sq]
  refine five tm.me (wF_pos tm.wt) oh.nd og.nd hl oh.ne oh.bd og.bd fun r hr f hf hn => ?_
  have z := List.filter_eq_nil_iff.mp hb (ins ws.length h r f) (mem_exs.mpr ⟨r, hr, f, hf, hn, rfl⟩)
  unfold isLess at z
  rw [decide_eq_true_eq, cost_eq tm.sq, cost_eq tm.sq] at z
  have e : costF ws.length (wF ws) (getM rows) (ins ws.length h r f) = costF ws.length (wF ws) (getM rows) (f :: h.filter (· ≠ r)) := costF_same fun x => by
    rw [mem_ins, List.mem_cons, List.mem_filter, decide_eq_true_eq]
    constructor
    · rintro (q | q)
      · exact ⟨by omega, .inl q⟩
      · exact ⟨oh.bd x q.1, .inr q⟩
    · rintro ⟨_, q⟩
      exact q
  rw [e] at z
  omega
theorem best_settled {h : List Nat} (oh : HsOk ws.length h) (hm : ∀ g, HsOk ws.length g → g.length = h.length → cost ws rows h ≤ cost ws rows g) : better ws rows h = [] := by
  cases e : better ws rows h with
  | nil => rfl
  | cons o r =>
    obtain ⟨a, b, c⟩ := better_ok oh (show o ∈ better ws rows h by rw [e]; exact List.mem_cons_self)
    have := hm o a b
    omega
/-- where better ends, it stays -/
theorem settled_is (tm : TabM ws rows) {hs : List Nat} (ok : HsOk ws.length hs) {m : Nat} (h : better ws rows (itr (stp ws rows) m hs) = []) : itr (stp ws rows) m hs = itr (stp ws rows) 60 hs := by
  by_cases hm : m ≤ 60
  · have z := itr_add (stp ws rows) hs m (60 - m)
    rw [show 60 - m + m = 60 by omega] at z
    rw [z, itr_fix _ _ (stp_fix h)]
  · have z := itr_add (stp ws rows) hs 60 (m - 60)
    rw [show m - 60 + 60 = m by omega] at z
    rw [z, itr_fix _ _ (stp_fix (sixty tm ok))]
end
end NH
namespace NH
open PySem L2 Evl
section
variable {K : PySem.W.Frag} {σ : L2.St} {H : Hp}
theorem el_if {t : TT} {ta tb : TE} {b : Bool} {xs ys zs : List V} (h : EvT t σ H b) (h1 : b = true → EvL ta σ H xs) (h2 : b = false → EvL tb σ H ys) (e1 : b = true → xs = zs) (e2 : b = false → ys = zs) : EvL (tIf t ta tb) σ H zs := fun H1 e Q q => h H1 e _ fun H2 e3 => by
  cases b with
  | true =>
    show ta σ H2 Q
    refine h1 rfl H2 (e.trans e3) Q fun p H3 np e4 hp => q p H3 (fresh_back e3 np) (e3.trans e4) ?_
    rw [hp, e1 rfl]
  | false =>
    show tb σ H2 Q
    refine h2 rfl H2 (e.trans e3) Q fun p H3 np e4 hp => q p H3 (fresh_back e3 np) (e3.trans e4) ?_
    rw [hp, e2 rfl]
theorem el_catO {ta tb : TE} {l : Addr} {xs ys : List V} (h1 : Ev ta σ H (.ref l)) (hl : H l = some (.lst xs)) (h2 : EvL tb σ H ys) (hz : xs.length + ys.length ≤ 100000) : EvL (tOp rCat ta tb) σ H (xs ++ ys) := fun H1 e Q q =>
  h1 H1 e _ fun H2 e2 => h2 H2 (e.trans e2) _ fun b H3 nb e3 hb => ⟨l, b, _, _, rfl, rfl, ((e.trans e2).trans e3) _ _ hl, hb, sz_of hz, fun c nc => q c _ (fresh_back (e2.trans e3) nc) ((e2.trans e3).trans (Ex.new nc)) upd_same⟩
/-- the law's sum_by -/
theorem ev_lsum {tw tr th : TE} {p pw pr pT ph : Addr} {ws : List Int} {rs : List Road} {rows : List (List Int)} {hs : List Nat} (tm : TabM ws rows) (ok : HsOk ws.length hs) (hW : WebAt H p pw pr ws rs) (hT : RowsAt H pT rows) (hH : H ph = some (.tup (hs.map nV)))
    (h1 : Ev tw σ H (.ref p)) (h2 : Ev tr σ H (.ref pT)) (h3 : Ev th σ H (.ref ph)) : Ev (tCall spLSum [] E0 (tCons tw (tCons tr (tCons th tNil)))) σ H (.int (cost ws rows hs)) :=
  ev_cl (ea_cons h1 (ea_cons h2 (ea_one h3))) fun H1 e Q q => ⟨p, pw, pr, pT, ph, ws, rs, rows, hs, rfl, hW.mono e, hT.mono e, e _ _ hH, tm, ok.ne, by have := ok.len; have := tm.n7; omega, ok.bd, q⟩
end
abbrev tOther (K : PySem.W.Frag) : TS := tAsg (tCB (rTupA K) (tCons (tCB (rSorted K) (tCons (tOp rCat (tLc (iTup K (tVar 6)) (gName 17) (tTest (tOp rNe (tVar 17) (tVar 11))) (tVar 17) [17]) (tLst (tCons (tVar 12) tNil))) tNil)) tNil)) (gName 13)
abbrev tSome : TS := tAsg (tOp rCat (tVar 9) (tIf (tTest (tOp (rI0 fun i j => .bl (decide (i < j))) (tCall spLSum [] E0 (tCons (tVar 2) (tCons (tVar 3) (tCons (tVar 13) tNil)))) (tVar 10))) (tLst (tCons (tVar 13) tNil)) (tLst tNil))) (gName 9)
abbrev tDbl (K : PySem.W.Frag) : TS := tFor (iTup K (tVar 6)) (gName 11) (tFor (iList K (tLc (iRng1 (tCons (tVar 4) tNil)) (gName 16) (tTest (tOp (rIn K true) (tVar 16) (tVar 6))) (tVar 16) [16])) (gName 12) (tSeq (tOther K) tSome))
theorem dbl_read {K : PySem.W.Frag} {H : Hp} {D : Ends} {p pw pr pT hA pS : Addr} {ws : List Int} {rs : List Road} {rows : List (List Int)} {h : List Nat} {v0 v1 v5 v7 v8 u11 u12 u13 v14 v15 : Option V}
    (tm : TabM ws rows) (ok : HsOk ws.length h) (hW : WebAt H p pw pr ws rs) (hT : RowsAt H pT rows) (hH : H hA = some (.tup (h.map nV))) (hS : H pS = some (.lst []))
    (k : ∀ H' pS' ys u11 u12 u13, Ex H H' → H' pS' = some (.lst ys) → Rel HsR H' (better ws rows h) ys → D.nx [v0, v1, some (.ref p), some (.ref pT), some (nV ws.length), v5, some (.ref hA), v7, v8, some (.ref pS'), some (.int (cost ws rows h)), u11, u12, u13, v14, v15, none, none] H') :
    tDbl K D [v0, v1, some (.ref p), some (.ref pT), some (nV ws.length), v5, some (.ref hA), v7, v8, some (.ref pS), some (.int (cost ws rows h)), u11, u12, u13, v14, v15, none, none] H := by
  have n7 := tm.n7
  have lh := ok.len
  refine s_forT (K := K) (ev_var (i := 6) (v := .ref hA) rfl) (st_of hH) (fun i σ H' => ∃ pS ys u11 u12 u13, σ = [v0, v1, some (.ref p), some (.ref pT), some (nV ws.length), v5, some (.ref hA), v7, v8, some (.ref pS), some (.int (cost ws rows h)), u11, u12, u13, v14, v15, none, none] ∧ Ex H H' ∧ H' pS = some (.lst ys) ∧ ys.length ≤ 100 * i ∧
      Rel HsR H' (((h.take i).flatMap (fxs ws.length h)).filter (isLess ws rows h)) ys)
    (fun H1 e1 => ⟨pS, [], _, _, _, rfl, e1, e1 _ _ hS, Nat.zero_le _, .nil⟩) (fun i σ H' _ ⟨_, _, _, _, _, _, e, _⟩ => st_of (e _ _ hH)) ?_ ?_
  · rintro i x σ H1 hx ⟨pS, ys, u11, u12, u13, rfl, e1, hS1, ly, rel⟩
    obtain ⟨g, hg, rfl⟩ := ix_nat' hx
    have hil : i < h.length := (List.getElem?_eq_some_iff.mp hg).1
    have hH1 := e1 _ _ hH
    generalize hb0 : ((h.take i).flatMap (fxs ws.length h)).filter (isLess ws rows h) = b0 at rel
    have key := elP_rng1 (R := fun (b : Nat) v _ => v = nV b) (gt := gName 16) (tt := tTest (tOp (rIn K true) (tVar 16) (tVar 6))) (te := tVar 16) (vs := [16]) (σ := [v0, v1, some (.ref p), some (.ref pT), some (nV ws.length), v5, some (.ref hA), v7, v8, some (.ref pS), some (.int (cost ws rows h)), some (nV g), u12, u13, v14, v15, none, none]) (H := H1) Stays.nat (n := (ws.length : Int)) (ta := tCons (tVar 4) tNil)
      (fun x => decide (x ∉ h)) id (ea_one (ev_var rfl)) ⟨by omega, by omega⟩ fun x H2 e2 hx => lcTurn_name rfl (et_is (et_cmp (ev_var (i := 16) rfl) (ev_var (i := 6) rfl) (rv_niT (K := K) (st_of (e2 _ _ hH1)) rfl (flat_nat _) (x := nV x))) (by rw [inV_nat, decide_not])) fun _ => ev_p (ev_var rfl)
    have tn : ((ws.length : Int)).toNat = ws.length := Int.toNat_natCast _
    rw [tn] at key
    have eg : gives ws.length (fun x => decide (x ∉ h)) (id : Nat → Nat) = (List.range ws.length).filter fun x => decide (x ∉ h) := by
      unfold gives
      rw [List.map_id]
    rw [eg] at key
    generalize hfr : ((List.range ws.length).filter fun x => decide (x ∉ h)) = fr at key
    have frm : ∀ x ∈ fr, x < ws.length ∧ x ∉ h := fun x hx => by
      rw [← hfr] at hx
      obtain ⟨h1, h2⟩ := List.mem_filter.mp hx
      exact ⟨List.mem_range.mp h1, of_decide_eq_true h2⟩
    have frl : fr.length ≤ ws.length := by
      rw [← hfr]
      have := List.length_filter_le (fun x => decide (x ∉ h)) (List.range ws.length)
      rw [List.length_range] at this
      exact this
    refine s_forNL (K := K) (xs := fr.map nV) (fun H2 e2 Q' q' => key H2 e2 Q' fun q H3 n3 e3 h3 => q' q H3 n3 e3 h3.nats) (fun pL j σ H' => ∃ pS ys u12 u13, σ = [v0, v1, some (.ref p), some (.ref pT), some (nV ws.length), v5, some (.ref hA), v7, v8, some (.ref pS), some (.int (cost ws rows h)), some (nV g), u12, u13, v14, v15, none, none] ∧ Ex H H' ∧ H' pL = some (.lst (fr.map nV)) ∧ H' pS = some (.lst ys) ∧ ys.length ≤ 100 * i + j ∧
      Rel HsR H' (b0 ++ (((fr.take j).map (ins ws.length h g)).filter (isLess ws rows h))) ys)
      (fun pL H2 _ e2 hL => ⟨pS, ys, _, _, rfl, e1.trans e2, hL, e2 _ _ hS1, ly, by
        have z := rel.mono stays_hs.mono e2
        rw [← List.append_nil b0] at z
        exact z⟩) (fun pL j σ H' _ ⟨_, _, _, _, _, _, hL, _⟩ => sq_of hL) ?_ ?_
    · rintro pL j x σ H2 hx ⟨pS, ys, u12, u13, rfl, e2, hL, hS2, ly, rel⟩
      obtain ⟨fx, hfx, rfl⟩ := ix_nat' hx
      obtain ⟨f1, f2⟩ := frm fx (List.mem_of_getElem? hfx)
      have hjl : j < fr.length := (List.getElem?_eq_some_iff.mp hfx).1
      have hH2 := e2 _ _ hH
      refine q_asgN (evN_tupSorted (K := K) (hs := ins ws.length h g fx) (l := h.filter (fun x => decide (x ≠ g)) ++ [fx]) (evN_cat1 (evN_gone (K := K) (g := g) (gs := 11) (xs := 17) (hi := 6) hH2 (by omega) rfl (fun _ => rfl) (fun _ => rfl) (fun _ => rfl)).p (fun _ _ => ev_var rfl) (Nat.le_trans (List.length_filter_le _ _) (by omega))) (by
          rw [List.length_append, List.length_singleton]
          have := List.length_filter_le (fun x => decide (x ≠ g)) h
          omega) fun ns pm pw => ins_of ok f1 f2 pm pw) fun po H3 n3 e3 hO => ?_
      have oki := ins_ok (hs := h) (g := g) f1
      have e03 := e2.trans e3
      have hS3 := e3 _ _ hS2
      refine s_asgL (el_catO (ev_var (i := 9) (v := .ref pS) rfl) hS3 (el_if (b := isLess ws rows h (ins ws.length h g fx)) (zs := if isLess ws rows h (ins ws.length h g fx) = true then [.ref po] else [])
        (et_cmp (ev_lsum tm oki (hW.mono e03) (hT.mono e03) hO (ev_var (i := 2) rfl) (ev_var (i := 3) rfl) (ev_var (i := 13) rfl)) (ev_var (i := 10) rfl) (rv_I0 (g := fun i j => .bl (decide (i < j)))))
        (fun _ => el_lst (ea_one (ev_var (i := 13) (v := .ref po) rfl)) (show (1 : Nat) ≤ 100000 by decide)) (fun _ => el_nil) (fun hb => by rw [if_pos hb]) fun hb => by rw [if_neg (by rw [hb]; decide)]) (by
          have : (if isLess ws rows h (ins ws.length h g fx) = true then [V.ref po] else []).length ≤ 1 := by split <;> simp
          omega)) fun pN H4 n4 e4 hN => ?_
      refine ⟨pN, _, _, _, rfl, e03.trans e4, e4 _ _ (e3 _ _ hL), hN, ?_, ?_⟩
      · rw [List.length_append]
        have : (if isLess ws rows h (ins ws.length h g fx) = true then [V.ref po] else []).length ≤ 1 := by split <;> simp
        omega
      · have et : ((fr.take (j + 1)).map (ins ws.length h g)).filter (isLess ws rows h) = ((fr.take j).map (ins ws.length h g)).filter (isLess ws rows h) ++ if isLess ws rows h (ins ws.length h g fx) = true then [ins ws.length h g fx] else [] := by
          rw [List.take_add_one, hfx, List.map_append, List.filter_append]
          congr 1
          show List.filter _ [ins ws.length h g fx] = _
          rw [List.filter_cons]
          rfl
        rw [et, ← List.append_assoc]
        have z := rel.mono stays_hs.mono (e3.trans e4)
        cases hl : isLess ws rows h (ins ws.length h g fx) with
        | true =>
          rw [if_pos rfl, if_pos rfl]
          exact z.snoc ⟨po, rfl, e4 _ _ hO⟩
        | false =>
          rw [if_neg (by decide), if_neg (by decide), List.append_nil, List.append_nil]
          exact z
    · rintro pL σ H2 ⟨pS, ys, u12, u13, rfl, e2, hL, hS2, ly, rel⟩
      rw [List.length_map, List.take_of_length_le (Nat.le_refl _)] at rel
      rw [List.length_map] at ly
      refine ⟨pS, ys, _, _, _, rfl, e2, hS2, by omega, ?_⟩
      rw [filter_flat_take _ _ hg, hb0]
      have ef : fxs ws.length h g = fr.map (ins ws.length h g) := by
        rw [← hfr]
        rfl
      rw [ef]
      exact rel
  · rintro σ H1 ⟨pS, ys, u11, u12, u13, rfl, e1, hS1, ly, rel⟩
    rw [List.length_map, List.take_of_length_le (Nat.le_refl _)] at rel
    exact k H1 pS ys _ _ _ e1 hS1 rel
end NH
namespace NH
open PySem L2 Evl
section
variable {K : PySem.W.Frag} {σ : L2.St} {H : Hp} {D : Ends} {tz : TS}
theorem evd_lweb {pr a : Addr} {ns : List Int} {tr : TE} (hr : ∀ H1, G K pr a ns H H1 → Ev tr σ H1 (.ref pr)) : EvD K pr a ns (tCall (spLWeb K) [] E0 (tCons tr (tCons (tC (.int 7)) (tCons (tC (.int 5)) tNil)))) σ H (fun v H' => ∃ p pw pq ws rs, v = .ref p ∧ WebAt H' p pw pq ws rs ∧ WebOk ws rs) := fun H1 g Q q => by
  refine hr H1 g H1 (Ex.refl H1) _ fun H2 e2 => ?_
  exact ⟨pr, a, ns, rfl, g.row.ex e2, fun p pw pq ws rs H3 g3 hW ok => q _ H3 ((G.ex g.row e2).trans g3) ⟨p, pw, pq, ws, rs, rfl, hW, ok⟩⟩
theorem evd_lhouses {pr a : Addr} {ns : List Int} {tr tm : TE} {n : Nat} (hr : ∀ H1, G K pr a ns H H1 → Ev tr σ H1 (.ref pr)) (hm : ∀ H1, G K pr a ns H H1 → Ev tm σ H1 (nV n)) (n1 : 1 ≤ n) (n2 : n ≤ 60) : EvD K pr a ns (tCall (spLHouses K) [] E0 (tCons tr (tCons tm tNil))) σ H (fun v H' => ∃ p hs, v = .ref p ∧ H' p = some (.tup (hs.map nV)) ∧ HsOk n hs) := fun H1 g Q q => by
  refine hr H1 g H1 (Ex.refl H1) _ fun H2 e2 => hm H2 (g.grow e2) H2 (Ex.refl H2) _ fun H3 e3 => ?_
  exact ⟨pr, a, ns, n, rfl, g.row.ex (e2.trans e3), n1, n2, fun p hs H4 g4 hp ok => q _ H4 ((G.ex g.row (e2.trans e3)).trans g4) ⟨p, hs, rfl, hp, ok⟩⟩
/-- x, y = new, b -/
theorem q_asgPairN {ta tb : TE} {y : V} {i j : Nat} {PA : Addr → Hp → Prop} (mono : ∀ p H H', Ex H H' → PA p H → PA p H') (ha : EvN ta σ H PA) (hb : Ev tb σ H y) (k : ∀ p H1, H p = none → Ex H H1 → PA p H1 → tz D ((σ.set i (some (.ref p))).set j (some y)) H1) :
    tSeq (tAsg (tTup (tCons ta (tCons tb tNil))) (gTup K 2 (gCons (gName i) (gCons (gName j) gNil)))) tz D σ H := by
  show tCons ta (tCons tb tNil) σ H fun vs H1 => vs.length ≤ sizeLine ∧ ∀ p, H1 p = none → gTup K 2 (gCons (gName i) (gCons (gName j) gNil)) (.ref p) σ (upd H1 p (.tup vs)) (tz D)
  refine ha H (Ex.refl H) _ fun p H1 np e1 hp => hb H1 e1 _ fun H2 e2 => ⟨two_line, fun t nt => g_pair upd_same (k p _ np ((e1.trans e2).trans (Ex.new nt)) (mono _ _ _ (e2.trans (Ex.new nt)) hp))⟩
theorem s_asgPair {ta tb : TE} {x y : V} {i j : Nat} (ha : Ev ta σ H x) (hb : Ev tb σ H y) (k : ∀ H1, Ex H H1 → D.nx ((σ.set i (some x)).set j (some y)) H1) :
    tAsg (tTup (tCons ta (tCons tb tNil))) (gTup K 2 (gCons (gName i) (gCons (gName j) gNil))) D σ H := by
  show tTup (tCons ta (tCons tb tNil)) σ H fun v H1 => gTup K 2 (gCons (gName i) (gCons (gName j) gNil)) v σ H1 D.nx
  exact eu_tup (ea_cons ha (ea_one hb)) (show (2 : Nat) ≤ 100000 by decide) H (Ex.refl H) _ fun p H1 _ e1 hp => g_pair hp (k H1 e1)
theorem q_parLV {ta tb : TE} {xs : List V} {y : V} {i j : Nat} (h1 : EvL ta σ H xs) (h2 : Ev tb σ H y) (k : ∀ p H1, H p = none → Ex H H1 → H1 p = some (.lst xs) → tz D ((σ.set i (some (.ref p))).set j (some y)) H1) :
    tSeq (tPar i j (tCons ta (tCons tb tNil))) tz D σ H := by
  show tCons ta (tCons tb tNil) σ H fun vs H1 => ∃ v w, vs = [v, w] ∧ tz D ((σ.set i (some v)).set j (some w)) H1
  exact h1 H (Ex.refl H) _ fun p H1 np e1 hp => h2 H1 e1 _ fun H2 e2 => ⟨_, _, rfl, k p H2 np (e1.trans e2) (e2 _ _ hp)⟩
theorem dp_hss {H : Hp} : ∀ {bs : List (List Nat)} {zs : List V}, Rel HsR H bs zs → DpAll K H zs ((bs.map zN).map fun h => .tuple (h.map PyData.int))
  | _, _, .nil => .nil
  | _, _, .cons g t => .cons (hs_dp g) (dp_hss t)
theorem eqv_nil (l : List (List Int)) : PyData.eqv (.list (l.map fun h => .tuple (h.map PyData.int))) (.list []) = l.isEmpty := by
  cases l with
  | nil => simp only [PyData.eqv, List.map_nil, PyData.eqvAll, List.isEmpty_nil]
  | cons x t => simp only [PyData.eqv, List.map_cons, PyData.eqvAll, List.isEmpty_cons]
/-- some == [], some != [] -/
theorem ev_eqE {te : TE} {pS : Addr} {ys : List V} {l : List (List Nat)} (h : Ev te σ H (.ref pS)) (hS : H pS = some (.lst ys)) (r : Rel HsR H l ys) : Ev (tOp (rEqD K) te (tLst tNil)) σ H (.bl l.isEmpty) :=
  ev_eqP (P := fun v H' => v = .ref pS ∧ H' pS = some (.lst ys) ∧ Rel HsR H' l ys) (evP_of h fun H' e => ⟨rfl, e _ _ hS, r.mono stays_hs.mono e⟩) (fun H1 e1 => evP_nil) fun x y H1 H2 ⟨ex, hx, rx⟩ e2 ⟨p, ey, hy⟩ => by
    subst ex
    subst ey
    refine ⟨_, .list [], .lst (sq_of (e2 _ _ hx)) (dp_hss (rx.mono stays_hs.mono e2)), .lst (sq_of hy) .nil, shaped_lt _, shaped_li [], ?_⟩
    rw [eqv_nil]
    cases l <;> rfl
theorem ev_neE {te : TE} {pS : Addr} {ys : List V} {l : List (List Nat)} (h : Ev te σ H (.ref pS)) (hS : H pS = some (.lst ys)) (r : Rel HsR H l ys) : Ev (tOp (rNeD K) te (tLst tNil)) σ H (.bl (!l.isEmpty)) :=
  ev_neP (P := fun v H' => v = .ref pS ∧ H' pS = some (.lst ys) ∧ Rel HsR H' l ys) (evP_of h fun H' e => ⟨rfl, e _ _ hS, r.mono stays_hs.mono e⟩) (fun H1 e1 => evP_nil) fun x y H1 H2 ⟨ex, hx, rx⟩ e2 ⟨p, ey, hy⟩ => by
    subst ex
    subst ey
    refine ⟨_, .list [], .lst (sq_of (e2 _ _ hx)) (dp_hss (rx.mono stays_hs.mono e2)), .lst (sq_of hy) .nil, shaped_lt _, shaped_li [], ?_⟩
    rw [eqv_nil]
    cases l <;> rfl
end
theorem q_dbl {K : PySem.W.Frag} {H : Hp} {D : Ends} {tz : TS} {p pw pr pT hA pS : Addr} {ws : List Int} {rs : List Road} {rows : List (List Int)} {h : List Nat} {v0 v1 v5 v7 v8 u11 u12 u13 v14 v15 : Option V}
    (tm : TabM ws rows) (ok : HsOk ws.length h) (hW : WebAt H p pw pr ws rs) (hT : RowsAt H pT rows) (hH : H hA = some (.tup (h.map nV))) (hS : H pS = some (.lst []))
    (k : ∀ H' pS' ys u11 u12 u13, Ex H H' → H' pS' = some (.lst ys) → Rel HsR H' (better ws rows h) ys → tz D [v0, v1, some (.ref p), some (.ref pT), some (nV ws.length), v5, some (.ref hA), v7, v8, some (.ref pS'), some (.int (cost ws rows h)), u11, u12, u13, v14, v15, none, none] H') :
    tSeq (tDbl K) tz D [v0, v1, some (.ref p), some (.ref pT), some (nV ws.length), v5, some (.ref hA), v7, v8, some (.ref pS), some (.int (cost ws rows h)), u11, u12, u13, v14, v15, none, none] H := dbl_read (D := { D with nx := tz D }) tm ok hW hT hH hS k
section
variable {K : PySem.W.Frag} {σ : L2.St} {H : Hp}
theorem ev_lsumP {tw tr th : TE} {p pw pr pT : Addr} {ws : List Int} {rs : List Road} {rows : List (List Int)} {hs : List Nat} (tm : TabM ws rows) (ne : hs ≠ []) (hl : hs.length ≤ 1000) (bd : ∀ x ∈ hs, x < ws.length) (hW : WebAt H p pw pr ws rs) (hT : RowsAt H pT rows)
    (h1 : Ev tw σ H (.ref p)) (h2 : Ev tr σ H (.ref pT)) (h3 : EvP th σ H (fun v H' => ∃ ph, v = .ref ph ∧ H' ph = some (.tup (hs.map nV)))) : Ev (tCall spLSum [] E0 (tCons tw (tCons tr (tCons th tNil)))) σ H (.int (cost ws rows hs)) :=
  EvP.ev (evP_callP (eap_three h1 h2 h3) fun vs H1 e1 ⟨u, ev, ph, eu, hH⟩ Q q => by
    subst ev
    subst eu
    exact ⟨p, pw, pr, pT, ph, ws, rs, rows, hs, rfl, hW.mono e1, hT.mono e1, hH, tm, ne, hl, bd, fun H' e2 => q _ H' e2 rfl⟩)
/-- min(some)[0], min(some)[1] -/
theorem ev_ix0P {te : TE} {b : Int × Int} (h : EvP te σ H (IIR b)) : Ev (tOp (rIxT K) te (tC (.int 0))) σ H (.int b.1) := fun H1 e Q q => by
  refine h H1 e _ fun v H2 e2 ⟨t, ev, ht⟩ => ?_
  subst ev
  exact ev_ixT (K := K) (σ := σ) (i := 0) (v := .int b.1) (ev_c (v := .ref t)) ev_c ht rfl H2 (Ex.refl H2) Q fun H3 e3 => q H3 (e2.trans e3)
theorem ev_ix1P {te : TE} {b : Int × Int} (h : EvP te σ H (IIR b)) : Ev (tOp (rIxT K) te (tC (.int 1))) σ H (.int b.2) := fun H1 e Q q => by
  refine h H1 e _ fun v H2 e2 ⟨t, ev, ht⟩ => ?_
  subst ev
  exact ev_ixT (K := K) (σ := σ) (i := 1) (v := .int b.2) (ev_c (v := .ref t)) ev_c ht rfl H2 (Ex.refl H2) Q fun H3 e3 => q H3 (e2.trans e3)
/-- is_settled(web, houses) -/
theorem ev_isS {tw th : TE} {p pw pr ph : Addr} {ws : List Int} {rs : List Road} {hs : List Nat} (hW : WebAt H p pw pr ws rs) (wok : WebOk ws rs) (hH : H ph = some (.tup (hs.map nV))) (ok : HsOk ws.length hs) (h1 : Ev tw σ H (.ref p)) (h2 : Ev th σ H (.ref ph)) :
    Ev (tCall spIsSettled [] E0 (tCons tw (tCons th tNil))) σ H (.bl (better ws (table ws.length rs) hs).isEmpty) := ev_cl (ea_cons h1 (ea_one h2)) fun H1 e Q q => ⟨p, pw, pr, ph, ws, rs, hs, rfl, hW.mono e, wok, e _ _ hH, ok, q⟩
/-- .. is not True -/
theorem et_notTrue {te : TE} (h : Ev te σ H (.bl true)) : EvT (tTest (tOp rNotB te (tC (.bl true)))) σ H false := et_test (b := false) (ev_op h ev_c fun H1 e Q q => ⟨true, true, rfl, rfl, q H1 (Ex.refl H1)⟩)
end
theorem al_nats {H : Hp} {p q : Addr} {l : List Nat} (hp : H p = some (.tup (l.map nV))) (hq : H q = some (.tup (l.map nV))) (hl : l.length ≤ 1000) : AlV 1 (.ref p) (.ref q) H :=
  .inr ⟨p, q, _, _, rfl, rfl, hp, hq, rfl, by rw [List.length_map]; exact hl, fun i u v hu hv => by
    rw [hu] at hv
    cases hv
    obtain ⟨x, _, rfl⟩ := ix_nat' hu
    exact .inr ⟨_, rfl, rfl⟩⟩
theorem al_pair {H : Hp} {p q x y : Addr} {c : Int} {l : List Nat} (hp : H p = some (.tup [.int c, .ref x])) (hq : H q = some (.tup [.int c, .ref y])) (hx : H x = some (.tup (l.map nV))) (hy : H y = some (.tup (l.map nV))) (hl : l.length ≤ 1000) : AlV 2 (.ref p) (.ref q) H :=
  .inr ⟨p, q, _, _, rfl, rfl, hp, hq, rfl, (show (2 : Nat) ≤ 1000 by decide), fun i u v hu hv => by
    match i, hu, hv with
    | 0, hu, hv =>
      cases hu
      cases hv
      exact .inl (.inr ⟨c, rfl, rfl⟩)
    | 1, hu, hv =>
      cases hu
      cases hv
      exact al_nats hx hy hl
    | i + 2, hu, hv => exact absurd hu (by simp)⟩
theorem G.rows {K : PySem.W.Frag} {pr a : Addr} {ns : List Int} {H H' : Hp} {q : Addr} {rows : List (List Int)} (R : RowAt K pr a ns H) (g : G K pr a ns H H') (ne : q ≠ pr) (h : RowsAt H q rows) : RowsAt H' q rows := by
  obtain ⟨ys, h1, h2⟩ := h
  refine ⟨ys, g.keep _ _ ne h1, Paired.mapP h2 fun b v ⟨t, h3, h4⟩ => ⟨t, h3, g.keep _ _ (fun e => ?_) h4⟩⟩
  subst e
  obtain ⟨i, s, c, hr⟩ := R.row
  rw [hr] at h4
  injection h4 with h4
  injection h4 with h4
  cases b with
  | nil => cases h4
  | cons x t => cases h4
theorem G.webAt {K : PySem.W.Frag} {pr a : Addr} {ns : List Int} {H H' : Hp} {p pw pq : Addr} {ws : List Int} {rs : List Road} (R : RowAt K pr a ns H) (g : G K pr a ns H H') (h : WebAt H p pw pq ws rs) : WebAt H' p pw pq ws rs := by
  obtain ⟨ys, h1, h2⟩ := h.rds
  exact ⟨g.tup R h.web, g.tup R h.wts, ys, g.tup R h1, Paired.mapP h2 fun b v hb => RoadR.g R g hb⟩
end NH
namespace NH
open PySem L2 Evl
open PySem.W (Tup Datum DatumOrd minOf alikeAll_datum minD_map depthAll_map)
section
variable {P : Program} {w : World} {K : PySem.W.Frag} {mg : Str → Option Value} {base : Heap} {f : Addr} {fd : FuncData}
theorem scLaw : FnScope ["_law_script", "_law_row", "_law_web_here", "_law_rows_here", "_law_count", "_law_houses_here", "_law_here", "_law_steps", "_law_turn", "_law_some", "_law_whole", "_law_gone", "_law_fresh", "_law_other", "_law_best", "_law_grown", "_law_k", "_law_x"] ["_law_script"] (defScope s_law) := ⟨rfl, rfl, rfl, by decide +kernel, rfl, by decide +kernel, by decide +kernel⟩
structure LawCl (P : Program) (w : World) (K : PySem.W.Frag) (mg : Str → Option Value) (base : Heap) : Prop where
  web : Cl P w K mg base "_law_web" 3 ["_law_row", "_law_most", "_law_extra"] (spLWeb K)
  rows : Cl P w K mg base "_law_rows" 1 ["_law_web_here"] spRows
  houses : Cl P w K mg base "_law_houses" 2 ["_law_row", "_law_count"] (spLHouses K)
  sum : Cl P w K mg base "_law_sum_by" 2 ["_law_web_here", "_law_rows_here", "_law_houses_here"] spLSum
  al0 : Cl P w K mg base "_law_alike" 1 ["_law_found", "_law_due"] (spAl 0)
  al1 : Cl P w K mg base "_law_alike" 2 ["_law_found", "_law_due"] (spAl 1)
  al2 : Cl P w K mg base "_law_alike" 3 ["_law_found", "_law_due"] (spAl 2)
  isS : Cl P w K mg base "is_settled" 5 ["web", "houses"] spIsSettled
  set : Cl P w K mg base "settled" 5 ["web", "houses"] spSettled
  best : Cl P w K mg base "best_houses" 5 ["web", "count"] spBest
  grown : Cl P w K mg base "grown_houses" 5 ["web", "count"] spGrown
theorem ok_law0 (T : Txt K mg) (C : LawCl P w K mg base) (F : Fun K "law" "law" s_law f fd) : FnOk P w K mg base CX0 20 f fd ["_law_script"] (spLaw K) := by
  refine F.ok scLaw (fun vs H Q E h => ?_) (fun cdv A outer s H vs Q E hr h => ?_)
  · obtain ⟨_, _, rfl, _⟩ := h
    rfl
  obtain ⟨a, ns, rfl, hS, hns, q⟩ := h
  have r3 := hr.mono (show 2 ≤ 19 by decide)
  refine ⟨_, pss_cons (ps_set (i := 1) scLaw.nd rfl (Or.inl rfl) (pe_lst (pa_cons (pv 0) (pa_cons pe_int (pa_cons pe_int (pa_cons pe_int pa_nil))))))
    (pss_cons (ps_set (i := 2) scLaw.nd rfl (Or.inr rfl) (pe_cl C.web (hr.mono (by decide)) (by rfl) (pa_cons (pv 1) (pa_cons pe_int (pa_cons pe_int pa_nil)))))
    (pss_cons (ps_asg (pe_tup (pa_cons (pe_cl C.rows (hr.mono (by decide)) (by rfl) (pa_cons (pv 2) pa_nil)) (pa_cons (pe_callB call_len_seq (by rfl) T.b_len PySem.boot_len (pa_cons (pe_ix ix_tup (pv 2) pe_int (fun _ _ => rfl)) pa_nil)) pa_nil)))
      (pg_tup rfl (pgs_cons (pg_name (i := 3) scLaw.nd rfl (Or.inr rfl)) (pgs_cons (pg_name (i := 4) scLaw.nd rfl (Or.inl rfl)) pgs_nil))))
    (pss_cons (ps_set (i := 5) scLaw.nd rfl (Or.inl rfl) (pe_cl C.houses (hr.mono (by decide)) (by rfl) (pa_cons (pv 1) (pa_cons (pv 4) pa_nil))))
    (pss_cons (ps_asg (pe_tup (pa_cons (pv 5) (pa_cons pe_int pa_nil))) (pg_tup rfl (pgs_cons (pg_name (i := 6) scLaw.nd rfl (Or.inr rfl)) (pgs_cons (pg_name (i := 7) scLaw.nd rfl (Or.inl rfl)) pgs_nil))))
    (pss_cons (ps_for PassesOwn.never rfl (pi_range1 (by rfl) T.b_range (pa_cons pe_int pa_nil)) (pg_name (i := 8) scLaw.nd rfl (Or.inl rfl))
      (pss_cons (ps_par (i := 9) (j := 10) rfl scLaw.nd rfl rfl (by decide) rfl rfl (pa_cons (pe_lst pa_nil) (pa_cons (pe_cl C.sum (hr.mono (by decide)) (by rfl) (pa_cons (pv 2) (pa_cons (pv 3) (pa_cons (pv 6) pa_nil)))) pa_nil)) (by rfl))
      (pss_cons (ps_for PassesOwn.never rfl (pi_tup (pv 6)) (pg_name (i := 11) scLaw.nd rfl (Or.inr rfl))
        (pss_one (ps_for PassesOwn.never rfl (pi_list (pe_lc (own := [("_law_k", 16)]) (g := gName 16) (tt := tTest (tOp (rIn K true) (tVar 16) (tVar 6))) (te := tVar 16) rfl scLaw.nd (pi_range1 (by rfl) T.b_range (pa_cons (pv 4) pa_nil)) (blkOk_by (by kernel_rfl)) (fun _ _ _ _ _ => pg_name (i := 16) scLaw.nd rfl (Or.inl rfl))
              (fun _ _ _ _ _ => pts_one (pt_cmpR op_notIn_seq (pv 16) (pv 6) (by rfl))) (fun _ _ _ _ _ => pv 16))) (pg_name (i := 12) scLaw.nd rfl (Or.inl rfl))
          (pss_cons (ps_set (i := 13) scLaw.nd rfl (Or.inl rfl) (pe_callTy call_tuple_of (by rfl) T.b_tuple (by decide +kernel) (pa_cons (pe_callB cr_sorted (by rfl) T.b_sorted (by decide +kernel) (pa_cons (pe_op op_cat
            (pe_lc (own := [("_law_x", 17)]) (g := gName 17) (tt := tTest (tOp rNe (tVar 17) (tVar 11))) (te := tVar 17) rfl scLaw.nd (pi_tup (pv 6)) (blkOk_by (by kernel_rfl)) (fun _ _ _ _ _ => pg_name (i := 17) scLaw.nd rfl (Or.inl rfl))
              (fun _ _ _ _ _ => pts_one (pt_cmpR op_ne (pv 17) (pv 11) (nomark _))) (fun _ _ _ _ _ => pv 17))
            (pe_lst (pa_cons (pv 12) pa_nil))) pa_nil)) pa_nil)))
          (pss_one (ps_set (i := 9) scLaw.nd rfl (Or.inl rfl) (pe_op op_cat (pv 9) (pe_ifExp (pt_cmpR op_lt (pe_cl C.sum (hr.mono (by decide)) (by rfl) (pa_cons (pv 2) (pa_cons (pv 3) (pa_cons (pv 13) pa_nil)))) (pv 10) (nomark _)) (pe_lst (pa_cons (pv 13) pa_nil)) (pe_lst pa_nil)))))))))
      (pss_cons (ps_if (PW.pt (pw_and (pt_cmpR op_eq (pv 8) pe_int (nomark _)) (pw_and1 (pt_not (pt_val (pe_cl C.al0 (hr.mono (by decide)) (by rfl) (pa_cons (pe_cl C.isS (hr.mono (by decide)) (by rfl) (pa_cons (pv 2) (pa_cons (pv 5) pa_nil))) (pa_cons (pe_cmpR (op_eqD hr.units) (pv 9) (pe_lst pa_nil) (nomark _)) pa_nil)))))))) pss_never pss_nil)
      (pss_one (ps_if (pt_cmpR (op_neD hr.units) (pv 9) (pe_lst pa_nil) (nomark _))
        (pss_one (ps_asg (pe_tup (pa_cons (pe_ix ix_list (pv 9) pe_int (fun _ _ => rfl)) (pa_cons (pe_op op_add (pv 7) pe_int) pa_nil))) (pg_tup rfl (pgs_cons (pg_name (i := 6) scLaw.nd rfl (Or.inr rfl)) (pgs_cons (pg_name (i := 7) scLaw.nd rfl (Or.inl rfl)) pgs_nil))))) pss_nil))))))
    (pss_cons (ps_if (PW.pt (pw_or (pt_not (pt_val (pe_cl C.al1 (hr.mono (by decide)) (by rfl) (pa_cons (pe_cl C.set (hr.mono (by decide)) (by rfl) (pa_cons (pv 2) (pa_cons (pv 5) pa_nil))) (pa_cons (pv 6) pa_nil)))))
      (pw_or1 (pt_cmpR op_notBl (pe_cl C.isS (hr.mono (by decide)) (by rfl) (pa_cons (pv 2) (pa_cons (pv 6) pa_nil))) pe_bl (nomark _))))) pss_never pss_nil)
    (pss_cons (ps_set (i := 14) scLaw.nd rfl (Or.inl rfl) (pe_cl C.best (hr.mono (by decide)) (by rfl) (pa_cons (pv 2) (pa_cons (pe_callB call_len_seq (by rfl) T.b_len PySem.boot_len (pa_cons (pv 5) pa_nil)) pa_nil))))
    (pss_cons (ps_if (PW.pt (pw_or (pt_cmpR op_gt (pe_cl C.sum (hr.mono (by decide)) (by rfl) (pa_cons (pv 2) (pa_cons (pv 3) (pa_cons (pv 6) pa_nil)))) (pe_op op_mul pe_int (pe_ix ix_tup (pv 14) pe_int (fun _ _ => rfl))) (nomark _))
      (pw_or1 (pt_cmpR op_notBl (pe_cl C.isS (hr.mono (by decide)) (by rfl) (pa_cons (pv 2) (pa_cons (pe_ix ix_tup (pv 14) pe_int (fun _ _ => rfl)) pa_nil))) pe_bl (nomark _))))) pss_never pss_nil)
    (pss_cons (ps_asg (pe_tup (pa_cons (pe_lst pa_nil) (pa_cons pe_non pa_nil))) (pg_tup rfl (pgs_cons (pg_name (i := 15) scLaw.nd rfl (Or.inr rfl)) (pgs_cons (pg_name (i := 10) scLaw.nd rfl (Or.inl rfl)) pgs_nil))))
    (pss_cons (ps_for PassesOwn.never rfl (pi_range1 (by rfl) T.b_range (pa_cons (pe_callB call_len_seq (by rfl) T.b_len PySem.boot_len (pa_cons (pv 5) pa_nil)) pa_nil)) (pg_name (i := 8) scLaw.nd rfl (Or.inl rfl))
      (pss_cons (ps_setLc (i := 9) (own := [("_law_x", 17)]) (g := gName 17) (tt := tTest (tOp (rIn K true) (tVar 17) (tVar 15)))
          (te := tTup (tCons (tCall spLSum [] E0 (tCons (tVar 2) (tCons (tVar 3) (tCons (tCB (rTupA K) (tCons (tOp rCat (tVar 15) (tLst (tCons (tVar 17) tNil))) tNil)) tNil)))) (tCons (tVar 17) tNil))) rfl scLaw.nd rfl rfl (sw_true rfl rfl rfl (by decide +kernel))
          (pi_range1 (by rfl) T.b_range (pa_cons (pv 4) pa_nil)) (blkOk_by (by kernel_rfl)) (fun _ _ _ _ _ => pg_name (i := 17) scLaw.nd rfl (Or.inl rfl))
          (fun _ _ _ _ _ => pts_one (pt_cmpR op_notIn_seq (pv 17) (pv 15) (by rfl)))
          (fun _ _ _ _ _ => pe_tup (pa_cons (pe_cl C.sum (hr.mono (by decide)) (by rfl) (pa_cons (pv 2) (pa_cons (pv 3) (pa_cons (pe_callTy call_tuple_of (by rfl) T.b_tuple (by decide +kernel) (pa_cons (pe_op op_cat (pv 15) (pe_lst (pa_cons (pv 17) pa_nil))) pa_nil)) pa_nil)))) (pa_cons (pv 17) pa_nil))))
      (pss_cons (ps_set (i := 10) scLaw.nd rfl (Or.inl rfl) (pe_ix ix_tup (pe_callB (cr_minD rfl (hu6 hr)) (by rfl) T.b_min (by decide +kernel) (pa_cons (pv 9) pa_nil)) pe_int (fun _ _ => rfl)))
      (pss_one (ps_expr (pe_bm PySem.F.plainAttrs_list PySem.F.slot_list_append PySem.F.type_list_append mt_append (pv 15) (pa_cons (pe_ix ix_tup (pe_callB (cr_minD rfl (hu6 hr)) (by rfl) T.b_min (by decide +kernel) (pa_cons (pv 9) pa_nil)) pe_int (fun _ _ => rfl)) pa_nil)))))))
    (pss_one (ps_ret (pe_cl C.al2 (hr.mono (by decide)) (by rfl) (pa_cons (pe_cl C.grown (hr.mono (by decide)) (by rfl) (pa_cons (pv 2) (pa_cons (pe_callB call_len_seq (by rfl) T.b_len PySem.boot_len (pa_cons (pv 5) pa_nil)) pa_nil)))
      (pa_cons (pe_tup (pa_cons (pv 10) (pa_cons (pe_callTy call_tuple_of (by rfl) T.b_tuple (by decide +kernel) (pa_cons (pe_callB cr_sorted (by rfl) T.b_sorted (by decide +kernel) (pa_cons (pv 15) pa_nil)) pa_nil)) pa_nil))) pa_nil))))))))))))))), ?_⟩
  refine q_asgL (el_lst (ea_cons (ev_var (v := .ref a) rfl) (ea_cons ev_c (ea_cons ev_c (ea_one ev_c)))) (show (4 : Nat) ≤ 100000 by decide)) fun pr H1 n1 e1 hrow => ?_
  have R1 : RowAt K pr a ns H1 := ⟨ex_l e1 hS, ⟨0, 6349, 0, hrow⟩, hns⟩
  refine q_asgD (K := K) R1 (evd_lweb (fun _ _ => ev_var rfl)) fun v H2 g2 ⟨p, pw, pq, ws, rs, ev, hW2, wok⟩ => ?_
  subst ev
  have R2 := g2.row
  have tm := wok.tabM
  have n7 := wok.n7
  have n2 := wok.n2
  have evR : EvN (tCall spRows [] E0 (tCons (tVar 2) tNil)) [some (.ref a), some (.ref pr), some (.ref p), none, none, none, none, none, none, none, none, none, none, none, none, none, none, none] H2 (fun q H' => RowsAt H' q (table ws.length rs)) :=
    evN_call (ea_one (ev_var (v := .ref p) rfl)) fun H1 e Q q => ⟨p, pw, pq, ws, rs, rfl, hW2.mono e, by omega, by have := wok.len; omega, wok.bds, fun q' H' n e2 hq => q q' H' n e2 (by rw [← lawRows_eq wok]; exact hq)⟩
  refine q_asgPairN (K := K) (PA := fun q H' => RowsAt H' q (table ws.length rs)) (fun _ _ _ e h => h.mono e) evR (ev_is (w := nV ws.length) (ev_lenT (ev_ixT (i := 0) (ev_var (i := 2) (v := .ref p) rfl) ev_c hW2.web rfl) hW2.wts) (by rw [List.length_map])) fun pT H3 n3 e3 hT3 => ?_
  have R3 := R2.ex e3
  have hW3 := hW2.mono e3
  refine q_asgD (K := K) R3 (evd_lhouses (n := ws.length) (fun _ _ => ev_var rfl) (fun _ _ => ev_var rfl) (by omega) (by omega)) fun v H4 g4 ⟨ph, hs, ev, hH4, ok⟩ => ?_
  subst ev
  have hT4 := G.rows R3 g4 (R2.fresh n3) hT3
  have hW4 := G.webAt R3 g4 hW3
  have lhs := ok.len
  have k1 : 1 ≤ hs.length := List.length_pos_iff.mpr ok.ne
  refine q_asgPair (K := K) (ev_var (i := 5) (v := .ref ph) rfl) (ev_c (v := .int 0)) fun H5 e5 => ?_
  have hW5 := hW4.mono e5
  have hT5 := hT4.mono e5
  have hH5 := e5 _ _ hH4
  refine q_forR1 (n := 60) (ea_one ev_c) ⟨by decide, by decide⟩ (fun t σ H' => ∃ hA st u8 u9 u10 u11 u12 u13, σ = [some (.ref a), some (.ref pr), some (.ref p), some (.ref pT), some (nV ws.length), some (.ref ph), some (.ref hA), some (.int st), u8, u9, u10, u11, u12, u13, none, none, none, none] ∧ Ex H5 H' ∧ H' hA = some (.tup ((itr (stp ws (table ws.length rs)) t hs).map nV)))
    (fun H6 e6 => ⟨ph, 0, _, _, _, _, _, _, rfl, e6, e6 _ _ hH5⟩) ?_ ?_
  · rintro t σ H6 ht ⟨hA, st, u8, u9, u10, u11, u12, u13, rfl, e6, hA6⟩
    obtain ⟨okt, lt⟩ := itr_ok (rows := (table ws.length rs)) ok t
    generalize hh : itr (stp ws (table ws.length rs)) t hs = h at okt lt hA6
    refine q_parLV el_nil (ev_lsum tm okt (hW5.mono e6) (hT5.mono e6) hA6 (ev_var (i := 2) rfl) (ev_var (i := 3) rfl) (ev_var (i := 6) rfl)) fun pS H7 n7' e7 hS7 => ?_
    have e67 := e6.trans e7
    refine q_dbl (K := K) tm okt (hW5.mono e67) (hT5.mono e67) (e7 _ _ hA6) hS7 fun H8 pS ys u11 u12 u13 e8 hS8 rel8 => ?_
    have e68 := e67.trans e8
    have hA8 := e8 _ _ (e7 _ _ hA6)
    refine q_guard (et_is (b := false) (et_and (a := decide (t = 0)) (b := false) (by
        have z := et_cmp (r := rEq) (H := H8) (σ := [some (.ref a), some (.ref pr), some (.ref p), some (.ref pT), some (nV ws.length), some (.ref ph), some (.ref hA), some (.int st), some (.int (t : Int)), some (.ref pS), some (.int (cost ws (table ws.length rs) h)), u11, u12, u13, none, none, none, none]) (ev_var (i := 8) rfl) (ev_c (v := .int ((0 : Nat) : Int))) (rv_eqI (i := (t : Int)) (j := ((0 : Nat) : Int)))
        rw [dec_nat] at z
        exact z) fun ht0 => et_not (et_B (ev_cl (v := .bl true) (ea_cons (ev_isS (hW5.mono e68) wok (e68 _ _ hH5) ok (ev_var (i := 2) rfl) (ev_var (i := 5) rfl)) (ea_one (ev_eqE (K := K) (ev_var (i := 9) (v := .ref pS) rfl) hS8 rel8))) fun H9 e9 Q' q' => ⟨_, _, rfl, .inl ⟨_, rfl, by
          have t0 : t = 0 := of_decide_eq_true ht0
          subst t0
          rw [← hh]
          rfl⟩, q'⟩))) (by rw [Bool.and_false])) fun H9 e9 => ?_
    have e69 := e68.trans e9
    refine s_when (et_test (ev_neE (K := K) (ev_var (i := 9) (v := .ref pS) rfl) (e9 _ _ hS8) (rel8.mono stays_hs.mono e9))) (fun hb H10 e10 => ?_) fun hb H10 e10 => ?_
    · cases eb : better ws (table ws.length rs) h with
      | nil =>
        rw [eb] at hb
        cases hb
      | cons o r =>
        rw [eb] at rel8
        cases rel8 with
        | cons ho tl =>
          obtain ⟨po, rfl, hpo⟩ := ho
          refine s_asgPair (K := K) (ev_ixL (K := K) (i := 0) (v := .ref po) (ev_var (i := 9) (v := .ref pS) rfl) ev_c (e10 _ _ (e9 _ _ hS8)) rfl) (ev_op (ev_var (i := 7) (v := .int st) rfl) ev_c (rv_I0 (g := fun i j => .int (i + j)))) fun H11 e11 => ?_
          refine ⟨po, _, _, _, _, _, _, _, rfl, e69.trans (e10.trans e11), ?_⟩
          have es : itr (stp ws (table ws.length rs)) (t + 1) hs = o := by
            show stp ws (table ws.length rs) (itr (stp ws (table ws.length rs)) t hs) = o
            rw [hh]
            exact stp_cons eb
          rw [es]
          exact e11 _ _ (e10 _ _ (e9 _ _ hpo))
    · have eb : better ws (table ws.length rs) h = [] := by
        cases e : better ws (table ws.length rs) h with
        | nil => rfl
        | cons o r =>
          rw [e] at hb
          cases hb
      have es : itr (stp ws (table ws.length rs)) (t + 1) hs = h := by
        show stp ws (table ws.length rs) (itr (stp ws (table ws.length rs)) t hs) = h
        rw [hh]
        exact stp_fix eb
      refine ⟨hA, _, _, _, _, _, _, _, rfl, e69.trans e10, ?_⟩
      rw [es]
      exact e10 _ _ (e9 _ _ hA8)
  · rintro σ H6 ⟨hA, st, u8, u9, u10, u11, u12, u13, rfl, e6, hA6⟩
    have t60 : (60 : Int).toNat = 60 := rfl
    rw [t60] at hA6
    obtain ⟨okF, lF⟩ := itr_ok (rows := (table ws.length rs)) ok 60
    have bF := sixty tm ok
    have stl := fun m (hb : better ws (table ws.length rs) (itr (stp ws (table ws.length rs)) m hs) = []) => settled_is tm ok hb
    generalize hF : itr (stp ws (table ws.length rs)) 60 hs = Fh at okF lF bF hA6 stl
    have hW6 := hW5.mono e6
    have hT6 := hT5.mono e6
    have hH6 := e6 _ _ hH5
    have lFn := okF.len
    refine q_guard (et_is (b := false) (et_or (a := false) (b := false) (et_not (a := true) (et_B (EvP.ev (evP_callP (eap_two (P := fun v H' => ∃ p', v = .ref p' ∧ H' p' = some (.tup (Fh.map nV))) (R := fun v H' => v = .ref hA ∧ H' hA = some (.tup (Fh.map nV))) (fun v H H' e ⟨p', z1, z2⟩ => ⟨p', z1, e _ _ z2⟩)
        (evP_call (ea_cons (ev_var (i := 2) (v := .ref p) rfl) (ea_one (ev_var (i := 5) (v := .ref ph) rfl))) fun H7 e7 Q' q' => ⟨p, pw, pq, ph, ws, rs, hs, rfl, hW6.mono e7, wok, e7 _ _ hH6, ok, fun m p' H' e8 hb hp => q' _ H' e8 ⟨p', rfl, by rw [hp, stl m hb]⟩⟩)
        fun H7 e7 => evP_of (ev_var (i := 6) (v := .ref hA) rfl) fun H8 e8 => ⟨rfl, (e7.trans e8) _ _ hA6⟩) fun vs H7 e7 ⟨v, u, ev, ⟨p', ev2, hp'⟩, eu, hA7⟩ Q' q' => ?_)))) fun _ => et_notTrue (ev_is (ev_isS hW6 wok hA6 okF (ev_var (i := 2) rfl) (ev_var (i := 6) rfl)) (by rw [bF]; rfl))) rfl) fun H7 e7 => ?_
    · subst ev
      subst ev2
      subst eu
      exact ⟨_, _, rfl, al_nats hp' hA7 (by omega), fun H8 e8 => q' _ H8 e8 rfl⟩
    have hW7 := hW6.mono e7
    have hH7 := e7 _ _ hH6
    have lk : ((hs.map nV).length : Int) = ((hs.length : Nat) : Int) := by rw [List.length_map]
    refine q_asgP (evP_call (P := fun v H' => ∃ t b pb, v = .ref t ∧ H' t = some (.tup [.int (cost ws (table ws.length rs) b), .ref pb]) ∧ H' pb = some (.tup (b.map nV)) ∧ HsOk ws.length b ∧ b.length = hs.length ∧ ∀ g, HsOk ws.length g → g.length = hs.length → cost ws (table ws.length rs) b ≤ cost ws (table ws.length rs) g) (ea_cons (ev_var (i := 2) (v := .ref p) rfl) (ea_one (ev_is (w := nV hs.length) (ev_lenT (K := K) (ev_var (i := 5) (v := .ref ph) rfl) hH7) (by rw [lk]))))
      fun H8 e8 Q' q' => ⟨p, pw, pq, hs.length, ws, rs, rfl, hW7.mono e8, wok, k1, lhs, fun t pb b H' e9 z1 z2 z3 z4 z5 => q' _ H' e9 ⟨t, b, pb, rfl, z1, z2, z3, z4, z5⟩⟩) fun v H8 e8 ⟨tb, b, pb, ev, hb1, hb2, okb, lb, minb⟩ => ?_
    subst ev
    have hW8 := hW7.mono e8
    have hT8 := (hT6.mono e7).mono e8
    have hA8 := e8 _ _ (e7 _ _ hA6)
    have hH8 := e8 _ _ hH7
    have f5 := five_cost tm okF okb (by omega) bF
    have bb : better ws (table ws.length rs) b = [] := best_settled okb fun g gok gl => minb g gok (by omega)
    refine q_guard (et_is (b := false) (et_or (a := false) (b := false) (et_is (et_cmp (ev_lsum tm okF hW8 hT8 hA8 (ev_var (i := 2) rfl) (ev_var (i := 3) rfl) (ev_var (i := 6) rfl)) (ev_op (ev_c (v := .int 5)) (ev_ixT (K := K) (i := 0) (v := .int (cost ws (table ws.length rs) b)) (ev_var (i := 14) (v := .ref tb) rfl) ev_c hb1 rfl) (rv_I (g := fun i j => .int (i * j)) (.inl ⟨by decide, by decide⟩))) (rv_I0 (g := fun i j => .bl (decide (j < i))))) (decide_eq_false (by omega)))
      fun _ => et_notTrue (ev_is (ev_isS hW8 wok hb2 okb (ev_var (i := 2) rfl) (ev_ixT (K := K) (i := 1) (v := .ref pb) (ev_var (i := 14) (v := .ref tb) rfl) ev_c hb1 rfl)) (by rw [bb]; rfl))) rfl) fun H9 e9 => ?_
    have hW9 := hW8.mono e9
    have hT9 := hT8.mono e9
    have hH9 := e9 _ _ hH8
    refine q_asgPairN (K := K) (PA := fun q H' => H' q = some (.lst [])) (fun _ _ _ e h => e _ _ h) el_nil (ev_c (v := .non)) fun pG H10 nG e10 hG => ?_
    have tn : ((ws.length : Int)).toNat = ws.length := Int.toNat_natCast _
    have tk : ((hs.length : Int)).toNat = hs.length := Int.toNat_natCast _
    refine q_forR1 (n := (hs.length : Int)) (ea_one (ev_is (ev_lenT (K := K) (ev_var (i := 5) (v := .ref ph) rfl) (e10 _ _ hH9)) (by rw [lk]))) ⟨by omega, by omega⟩ (fun i σ H' => ∃ u8 u9 vw, σ = [some (.ref a), some (.ref pr), some (.ref p), some (.ref pT), some (nV ws.length), some (.ref ph), some (.ref hA), some (.int st), u8, u9, some vw, u11, u12, u13, some (.ref tb), some (.ref pG), none, none] ∧ Ex H9 H' ∧ H' pG = some (.lst ((gro ws (table ws.length rs) i).map nV)) ∧ (i = 0 ∨ vw = .int (gMin ws (table ws.length rs) (gro ws (table ws.length rs) (i - 1))).1))
      (fun H11 e11 => ⟨_, _, _, rfl, e10.trans e11, e11 _ _ hG, .inl rfl⟩) ?_ ?_
    · rintro i σ H11 hi ⟨u8, u9, vw, rfl, e11, hG11, _⟩
      have hi' : i < ws.length := by omega
      obtain ⟨g1, g2', g3⟩ := gro_ok (ws := ws) (rows := (table ws.length rs)) i (by omega)
      generalize hg : gro ws (table ws.length rs) i = gs at g1 g2' g3 hG11
      have key := elP_rng1 (R := IIR) (gt := gName 17) (tt := tTest (tOp (rIn K true) (tVar 17) (tVar 15))) (te := tTup (tCons (tCall spLSum [] E0 (tCons (tVar 2) (tCons (tVar 3) (tCons (tCB (rTupA K) (tCons (tOp rCat (tVar 15) (tLst (tCons (tVar 17) tNil))) tNil)) tNil)))) (tCons (tVar 17) tNil))) (vs := [17])
        (σ := [some (.ref a), some (.ref pr), some (.ref p), some (.ref pT), some (nV ws.length), some (.ref ph), some (.ref hA), some (.int st), some (.int (i : Int)), u9, some vw, u11, u12, u13, some (.ref tb), some (.ref pG), none, none]) (H := H11) stays_ii (n := (ws.length : Int)) (ta := tCons (tVar 4) tNil) (fun x => decide (x ∉ gs)) (fun x => (cost ws (table ws.length rs) (gs ++ [x]), (x : Int)))
        (ea_one (ev_var rfl)) ⟨by omega, by omega⟩ fun x H12 e12 hx => lcTurn_name rfl (et_is (et_cmp (ev_var (i := 17) rfl) (ev_var (i := 15) rfl) (rv_niL (K := K) (sq_of (e12 _ _ hG11)) rfl (flat_nat _) (x := nV x))) (by rw [inV_nat, decide_not])) fun hbx => by
          have e1112 := e11.trans e12
          have hW12 := hW9.mono e1112
          have ec : EvP (tCB (rTupA K) (tCons (tOp rCat (tVar 15) (tLst (tCons (tVar 17) tNil))) tNil)) [some (.ref a), some (.ref pr), some (.ref p), some (.ref pT), some (nV ws.length), some (.ref ph), some (.ref hA), some (.int st), some (.int (i : Int)), u9, some vw, u11, u12, u13, some (.ref tb), some (.ref pG), none, some (nV x)] H12 (fun v H' => ∃ ph, v = .ref ph ∧ H' ph = some (.tup ((gs ++ [x]).map nV))) :=
            (evN_tupNat (K := K) (evN_cat1 (evP_ref (ev_var rfl) (e12 _ _ hG11)) (fun _ _ => ev_var rfl) (by omega))).p
          refine ((EvU.n (eu_tup (ea_cons (ev_lsumP tm (by simp) (by rw [List.length_append, List.length_singleton]; omega) (fun y hy => ?_) hW12 (hT9.mono e1112) (ev_var (i := 2) rfl) (ev_var (i := 3) rfl) ec) (ea_one (ev_var (i := 17) (v := nV x) rfl))) (show (2 : Nat) ≤ 100000 by decide)))).p.imp fun v H5 _ ⟨t, ev, ht⟩ => ⟨t, ev, ht⟩
          rcases List.mem_append.mp hy with h | h
          · exact g3 y h
          · rw [List.mem_singleton.mp h]
            omega
      rw [tn] at key
      refine q_asgN key fun pS H12 n12 e12 hS => ?_
      have hS' : LstOf IIR (gPairs ws (table ws.length rs) gs) pS H12 := hS
      have evm : ∀ {vw'} H13, Ex H12 H13 → EvP (tCB (rMinD K) (tCons (tVar 9) tNil)) [some (.ref a), some (.ref pr), some (.ref p), some (.ref pT), some (nV ws.length), some (.ref ph), some (.ref hA), some (.int st), some (.int (i : Int)), some (.ref pS), vw', u11, u12, u13, some (.ref tb), some (.ref pG), none, none] H13 (IIR (gMin ws (table ws.length rs) gs)) := fun {vw'} H13 e13 =>
        (evP_minDP (K := K) (RA := IIR) (A := fun l => l = gPairs ws (table ws.length rs) gs) ii_dp (by decide) (fun as hA => by rw [hA]; exact gPairs_ne (by omega)) (evP_of (ev_var (i := 9) (v := .ref pS) rfl) fun H5 e5 => ⟨pS, rfl, _, rfl, by
          obtain ⟨ys, h1, h2⟩ := hS'
          exact ⟨ys, (e13.trans e5) _ _ h1, h2.mono stays_ii.mono (e13.trans e5)⟩⟩)).imp fun v H5 _ ⟨x, xs, hx, hv⟩ => by
            rw [gMin_is hx.symm]
            exact hv
      refine q_asg (ev_ix0P (K := K) (evm H12 (Ex.refl H12))) fun H13 e13 => ?_
      have hG13 := e13 _ _ (e12 _ _ hG11)
      refine s_app hG13 (ev_var (i := 15) (v := .ref pG) rfl) (ev_ix1P (K := K) (evm H13 e13)) (by rw [List.length_map]; omega) fun H14 e14 => ?_
      refine ⟨_, _, _, rfl, Ex.mut (((e11.trans e12).trans e13).trans e14) nG, ?_, .inr ?_⟩
      · rw [upd_same, gro_succ, hg, List.map_append]
        obtain ⟨x0, _, _, hx0⟩ := gMin_at (ws := ws) (rows := (table ws.length rs)) (hs := gs) (by omega)
        have ex : V.int (gMin ws (table ws.length rs) gs).2 = nV (gMin ws (table ws.length rs) gs).2.toNat := by
          rw [hx0]
          show V.int (x0 : Int) = V.int (((x0 : Int).toNat : Nat) : Int)
          rw [Int.toNat_natCast]
        rw [ex]
        rfl
      · show _ = V.int (gMin ws (table ws.length rs) (gro ws (table ws.length rs) i)).1
        rw [hg]
    · rintro σ H11 ⟨u8, u9, vw, rfl, e11, hG11, hvw⟩
      rw [tk] at hG11 hvw
      rcases hvw with h | rfl
      · omega
      obtain ⟨g1, g2', g3⟩ := gro_ok (ws := ws) (rows := (table ws.length rs)) hs.length lhs
      have lup : (upOf ws.length (gro ws (table ws.length rs) hs.length)).length ≤ 1000 := by
        unfold upOf
        have := List.length_filter_le (fun x => decide (x ∈ gro ws (table ws.length rs) hs.length)) (List.range ws.length)
        rw [List.length_range] at this
        omega
      refine s_ret (EvP.ev (v := .bl true) (evP_callP (eap_two (P := fun v H' => ∃ t, v = .ref t ∧ GrownR ws (table ws.length rs) hs.length t H') (R := fun v H' => ∃ t x, v = .ref t ∧ H' t = some (.tup [.int (gMin ws (table ws.length rs) (gro ws (table ws.length rs) (hs.length - 1))).1, .ref x]) ∧ H' x = some (.tup ((upOf ws.length (gro ws (table ws.length rs) hs.length)).map nV)))
          (fun v H H' e ⟨t, z1, ph, z2, z3⟩ => ⟨t, z1, ph, e _ _ z2, e _ _ z3⟩)
          (evP_call (ea_cons (ev_var (i := 2) (v := .ref p) rfl) (ea_one (ev_is (w := nV hs.length) (ev_lenT (K := K) (ev_var (i := 5) (v := .ref ph) rfl) (e11 _ _ hH9)) (by rw [lk])))) fun H12 e12 Q' q' => ⟨p, pw, pq, hs.length, ws, rs, rfl, (hW9.mono e11).mono e12, wok, k1, lhs, fun t H' e13 hg => q' _ H' e13 ⟨t, rfl, hg⟩⟩)
          fun H12 e12 => (evN_tupN2 (PB := fun b H' => H' b = some (.tup ((upOf ws.length (gro ws (table ws.length rs) hs.length)).map nV))) (fun _ _ _ e h => e _ _ h) (ev_var (i := 10) rfl) (evN_tupSortedP (K := K) (l := gro ws (table ws.length rs) hs.length) (evP_ref (ev_var (i := 15) rfl) (e12 _ _ hG11)) (by omega) fun ns pm pw => upOf_is g1 g3 pm pw)).p.imp fun v H' _ ⟨t, z1, x, z2, z3⟩ => ⟨t, x, z1, z2, z3⟩)
        fun vs H12 e12 ⟨v, u, ev, ⟨t, ev2, px, z1, z2⟩, t2, x2, eu, z3, z4⟩ Q' q' => ?_)) fun H12 e12 => q H12
      subst ev
      subst ev2
      subst eu
      exact ⟨_, _, rfl, al_pair z1 z3 z2 z4 lup, fun H13 e13 => q' _ H13 e13 rfl⟩
end
end NH
namespace NH
open PySem L2 Evl
section
variable {P : Program} {w : World} {K : PySem.W.Frag} {mg : Str → Option Value} {base : Heap} {f : Addr} {fd : FuncData}
theorem cl_of {x : Str} {k : Nat} {ps : List Str} {sp : Sp} {st : Stmt} (h : ∃ (f : Addr) (fd : FuncData), mg x = some (.ref f) ∧ Fun K x x st f fd ∧ Binds K fd ps []) (ok : ∀ f fd, Fun K x x st f fd → FnOk P w K mg base CX0 k f fd ps sp) : Cl P w K mg base x k ps sp := by
  obtain ⟨f, fd, h1, h2, h3⟩ := h
  exact ⟨f, fd, h1, h2.kp, h3, ok f fd h2⟩
theorem ok_law (T : Txt K mg) (FS : Fns K mg) (F : Fun K "law" "law" s_law f fd) : FnOk P w K mg base CX0 20 f fd ["_law_script"] (spLaw K) := by
  have cIn : ClIn P w K mg base := cl_of FS.f_is_in fun f fd F => ok_is_in T F
  have cRoad := cl_of (P := P) (w := w) (base := base) FS.f_is_road fun f fd F => ok_is_road T cIn F
  have cWts := cl_of (P := P) (w := w) (base := base) FS.f_is_weights fun f fd F => ok_is_weights T cIn F
  have cParts := cl_of (P := P) (w := w) (base := base) FS.f_parts_in fun f fd F => ok_parts T F
  have cNW := cl_of (P := P) (w := w) (base := base) FS.f_need_web fun f fd F => ok_need_web T cRoad cWts cParts F
  have cNH := cl_of (P := P) (w := w) (base := base) FS.f_need_houses fun f fd F => ok_need_houses T cIn F
  have cNB := cl_of (P := P) (w := w) (base := base) FS.f_need_both fun f fd F => ok_need_both T cNW cNH F
  have cNC := cl_of (P := P) (w := w) (base := base) FS.f_need_count fun f fd F => ok_need_count T cIn F
  have cNN := cl_of (P := P) (w := w) (base := base) FS.f_need_number fun f fd F => ok_need_number T cNW cNC F
  have cTab := cl_of (P := P) (w := w) (base := base) FS.f_table_of fun f fd F => ok_table T F
  have cNear := cl_of (P := P) (w := w) (base := base) FS.f_near_in fun f fd F => ok_near T F
  have cSum := cl_of (P := P) (w := w) (base := base) FS.f_sum_in fun f fd F => ok_sum T cNear F
  have cMem := cl_of (P := P) (w := w) (base := base) FS.f_members fun f fd F => ok_members T F
  have cBS := cl_of (P := P) (w := w) (base := base) FS.f_by_size fun f fd F => ok_by_size T cMem F
  have cCh := cl_of (P := P) (w := w) (base := base) FS.f_choices fun f fd F => ok_choices T cBS F
  have cBest := cl_of (P := P) (w := w) (base := base) FS.f_best_houses fun f fd F => ok_best T cNN cTab cSum cCh F
  have cFx := cl_of (P := P) (w := w) (base := base) FS.f_first_exchange fun f fd F => ok_fx T cSum F
  have cIS := cl_of (P := P) (w := w) (base := base) FS.f_is_settled fun f fd F => ok_is_settled T cNB cTab cFx F
  have cSet := cl_of (P := P) (w := w) (base := base) FS.f_settled fun f fd F => ok_settled T cNB cTab cFx F
  have cGr := cl_of (P := P) (w := w) (base := base) FS.f_grown_houses fun f fd F => ok_grown T cNN cTab cSum F
  have cTk := cl_of (P := P) (w := w) (base := base) FS.f_law_taken fun f fd F => ok_taken T F
  have cPk := cl_of (P := P) (w := w) (base := base) FS.f_law_pick fun f fd F => ok_pick T cTk F
  have cOr := cl_of (P := P) (w := w) (base := base) FS.f_law_order fun f fd F => ok_order T cTk F
  have cLW := cl_of (P := P) (w := w) (base := base) FS.f_law_web fun f fd F => ok_lweb T cTk cPk cOr F
  have cLR := cl_of (P := P) (w := w) (base := base) FS.f_law_rows fun f fd F => ok_rows T F
  have cLH := cl_of (P := P) (w := w) (base := base) FS.f_law_houses fun f fd F => ok_lhouses T cTk F
  have cLN := cl_of (P := P) (w := w) (base := base) FS.f_law_near fun f fd F => ok_lnear T F
  have cLS := cl_of (P := P) (w := w) (base := base) FS.f_law_sum_by fun f fd F => ok_lsum T cLN F
  have cA0 := cl_of (P := P) (w := w) (base := base) FS.f_law_alike fun f fd F => ok_al0 T F
  have cA1 := cl_of (P := P) (w := w) (base := base) FS.f_law_alike fun f fd F => ok_alS T cA0 F
  have cA2 := cl_of (P := P) (w := w) (base := base) FS.f_law_alike fun f fd F => ok_alS T cA1 F
  exact ok_law0 T ⟨cLW, cLR, cLH, cLS, cA0, cA1, cA2, cIS, cSet, cBest, cGr⟩ F
end
end NH
namespace NH
open PySem L2
theorem all_mk {l : PySem.W.OpenLaw} {w : World} {K : PySem.W.Frag} {h : Heap} {mg : Str → Option Value} {fa : Addr} (X : K.In h) (G : h.Ns mainGlobals mg) (hfa : mg "law" = some (.ref fa))
    {f1 f2 f3 f4 f5 f6 f7 f8 f9 f10 f11 f12 f13 f14 f15 f16 f17 f18 f19 f20 f21 f22 f23 f24 f25 f26 f27 f28 f29 f30 : Addr} {od1 an1 od2 an2 od3 an3 od4 an4 od5 an5 od6 an6 od7 an7 od8 an8 od9 an9 od10 an10 od11 an11 od12 an12 od13 an13 od14 an14 od15 an15 od16 an16 od17 an17 od18 an18 od19 an19 od20 an20 od21 an21 od22 an22 od23 an23 od24 an24 od25 an25 od26 an26 od27 an27 od28 an28 od29 an29 od30 an30 : Option Addr} {sl1 sl2 sl3 sl4 sl5 sl6 sl7 sl8 sl9 sl10 sl11 sl12 sl13 sl14 sl15 sl16 sl17 sl18 sl19 sl20 sl21 sl22 sl23 sl24 sl25 sl26 sl27 sl28 sl29 sl30 : Array (Option Value)} {oc1 kV1 dc1 pm1 cd1 ct1 oc2 kV2 dc2 pm2 cd2 ct2 oc3 kV3 dc3 pm3 cd3 ct3 oc4 kV4 dc4 pm4 cd4 ct4 oc5 kV5 dc5 pm5 cd5 ct5 oc6 kV6 dc6 pm6 cd6 ct6 oc7 kV7 dc7 pm7 cd7 ct7 oc8 kV8 dc8 pm8 cd8 ct8 oc9 kV9 dc9 pm9 cd9 ct9 oc10 kV10 dc10 pm10 cd10 ct10 oc11 kV11 dc11 pm11 cd11 ct11 oc12 kV12 dc12 pm12 cd12 ct12 oc13 kV13 dc13 pm13 cd13 ct13 oc14 kV14 dc14 pm14 cd14 ct14 oc15 kV15 dc15 pm15 cd15 ct15 oc16 kV16 dc16 pm16 cd16 ct16 oc17 kV17 dc17 pm17 cd17 ct17 oc18 kV18 dc18 pm18 cd18 ct18 oc19 kV19 dc19 pm19 cd19 ct19 oc20 kV20 dc20 pm20 cd20 ct20 oc21 kV21 dc21 pm21 cd21 ct21 oc22 kV22 dc22 pm22 cd22 ct22 oc23 kV23 dc23 pm23 cd23 ct23 oc24 kV24 dc24 pm24 cd24 ct24 oc25 kV25 dc25 pm25 cd25 ct25 oc26 kV26 dc26 pm26 cd26 ct26 oc27 kV27 dc27 pm27 cd27 ct27 oc28 kV28 dc28 pm28 cd28 ct28 oc29 kV29 dc29 pm29 cd29 ct29 oc30 kV30 dc30 pm30 cd30 ct30 : Value}
    {t0 t1 t2 t3 : Tok}
    (a1 : PySem.W.nsIn K mainGlobals "is_in" = some (some (.ref f1))) (l1 : K.lookup f1 = some ⟨oc1, od1, .func (PySem.W.fnOf "is_in" "is_in" (defArgs s_is_in) (defBody s_is_in) (defScope s_is_in) .none kV1 dc1 pm1 an1 cd1 ct1), sl1⟩) (c1 : PySem.W.codeIn K cd1 "is_in" = true) (k1 : PySem.W.keepIn K (.ref f1) = true)
    (a2 : PySem.W.nsIn K mainGlobals "is_road" = some (some (.ref f2))) (l2 : K.lookup f2 = some ⟨oc2, od2, .func (PySem.W.fnOf "is_road" "is_road" (defArgs s_is_road) (defBody s_is_road) (defScope s_is_road) .none kV2 dc2 pm2 an2 cd2 ct2), sl2⟩) (c2 : PySem.W.codeIn K cd2 "is_road" = true) (k2 : PySem.W.keepIn K (.ref f2) = true)
    (a3 : PySem.W.nsIn K mainGlobals "is_weights" = some (some (.ref f3))) (l3 : K.lookup f3 = some ⟨oc3, od3, .func (PySem.W.fnOf "is_weights" "is_weights" (defArgs s_is_weights) (defBody s_is_weights) (defScope s_is_weights) .none kV3 dc3 pm3 an3 cd3 ct3), sl3⟩) (c3 : PySem.W.codeIn K cd3 "is_weights" = true) (k3 : PySem.W.keepIn K (.ref f3) = true)
    (a4 : PySem.W.nsIn K mainGlobals "need_web" = some (some (.ref f4))) (l4 : K.lookup f4 = some ⟨oc4, od4, .func (PySem.W.fnOf "need_web" "need_web" (defArgs s_need_web) (defBody s_need_web) (defScope s_need_web) .none kV4 dc4 pm4 an4 cd4 ct4), sl4⟩) (c4 : PySem.W.codeIn K cd4 "need_web" = true) (k4 : PySem.W.keepIn K (.ref f4) = true)
    (a5 : PySem.W.nsIn K mainGlobals "parts_in" = some (some (.ref f5))) (l5 : K.lookup f5 = some ⟨oc5, od5, .func (PySem.W.fnOf "parts_in" "parts_in" (defArgs s_parts_in) (defBody s_parts_in) (defScope s_parts_in) .none kV5 dc5 pm5 an5 cd5 ct5), sl5⟩) (c5 : PySem.W.codeIn K cd5 "parts_in" = true) (k5 : PySem.W.keepIn K (.ref f5) = true)
    (a6 : PySem.W.nsIn K mainGlobals "table_of" = some (some (.ref f6))) (l6 : K.lookup f6 = some ⟨oc6, od6, .func (PySem.W.fnOf "table_of" "table_of" (defArgs s_table_of) (defBody s_table_of) (defScope s_table_of) .none kV6 dc6 pm6 an6 cd6 ct6), sl6⟩) (c6 : PySem.W.codeIn K cd6 "table_of" = true) (k6 : PySem.W.keepIn K (.ref f6) = true)
    (a7 : PySem.W.nsIn K mainGlobals "need_houses" = some (some (.ref f7))) (l7 : K.lookup f7 = some ⟨oc7, od7, .func (PySem.W.fnOf "need_houses" "need_houses" (defArgs s_need_houses) (defBody s_need_houses) (defScope s_need_houses) .none kV7 dc7 pm7 an7 cd7 ct7), sl7⟩) (c7 : PySem.W.codeIn K cd7 "need_houses" = true) (k7 : PySem.W.keepIn K (.ref f7) = true)
    (a8 : PySem.W.nsIn K mainGlobals "near_in" = some (some (.ref f8))) (l8 : K.lookup f8 = some ⟨oc8, od8, .func (PySem.W.fnOf "near_in" "near_in" (defArgs s_near_in) (defBody s_near_in) (defScope s_near_in) .none kV8 dc8 pm8 an8 cd8 ct8), sl8⟩) (c8 : PySem.W.codeIn K cd8 "near_in" = true) (k8 : PySem.W.keepIn K (.ref f8) = true)
    (a9 : PySem.W.nsIn K mainGlobals "need_both" = some (some (.ref f9))) (l9 : K.lookup f9 = some ⟨oc9, od9, .func (PySem.W.fnOf "need_both" "need_both" (defArgs s_need_both) (defBody s_need_both) (defScope s_need_both) .none kV9 dc9 pm9 an9 cd9 ct9), sl9⟩) (c9 : PySem.W.codeIn K cd9 "need_both" = true) (k9 : PySem.W.keepIn K (.ref f9) = true)
    (a10 : PySem.W.nsIn K mainGlobals "sum_in" = some (some (.ref f10))) (l10 : K.lookup f10 = some ⟨oc10, od10, .func (PySem.W.fnOf "sum_in" "sum_in" (defArgs s_sum_in) (defBody s_sum_in) (defScope s_sum_in) .none kV10 dc10 pm10 an10 cd10 ct10), sl10⟩) (c10 : PySem.W.codeIn K cd10 "sum_in" = true) (k10 : PySem.W.keepIn K (.ref f10) = true)
    (a11 : PySem.W.nsIn K mainGlobals "members" = some (some (.ref f11))) (l11 : K.lookup f11 = some ⟨oc11, od11, .func (PySem.W.fnOf "members" "members" (defArgs s_members) (defBody s_members) (defScope s_members) .none kV11 dc11 pm11 an11 cd11 ct11), sl11⟩) (c11 : PySem.W.codeIn K cd11 "members" = true) (k11 : PySem.W.keepIn K (.ref f11) = true)
    (a12 : PySem.W.nsIn K mainGlobals "by_size" = some (some (.ref f12))) (l12 : K.lookup f12 = some ⟨oc12, od12, .func (PySem.W.fnOf "by_size" "by_size" (defArgs s_by_size) (defBody s_by_size) (defScope s_by_size) .none kV12 dc12 pm12 an12 cd12 ct12), sl12⟩) (c12 : PySem.W.codeIn K cd12 "by_size" = true) (k12 : PySem.W.keepIn K (.ref f12) = true)
    (a13 : PySem.W.nsIn K mainGlobals "need_count" = some (some (.ref f13))) (l13 : K.lookup f13 = some ⟨oc13, od13, .func (PySem.W.fnOf "need_count" "need_count" (defArgs s_need_count) (defBody s_need_count) (defScope s_need_count) .none kV13 dc13 pm13 an13 cd13 ct13), sl13⟩) (c13 : PySem.W.codeIn K cd13 "need_count" = true) (k13 : PySem.W.keepIn K (.ref f13) = true)
    (a14 : PySem.W.nsIn K mainGlobals "choices" = some (some (.ref f14))) (l14 : K.lookup f14 = some ⟨oc14, od14, .func (PySem.W.fnOf "choices" "choices" (defArgs s_choices) (defBody s_choices) (defScope s_choices) .none kV14 dc14 pm14 an14 cd14 ct14), sl14⟩) (c14 : PySem.W.codeIn K cd14 "choices" = true) (k14 : PySem.W.keepIn K (.ref f14) = true)
    (a15 : PySem.W.nsIn K mainGlobals "need_number" = some (some (.ref f15))) (l15 : K.lookup f15 = some ⟨oc15, od15, .func (PySem.W.fnOf "need_number" "need_number" (defArgs s_need_number) (defBody s_need_number) (defScope s_need_number) .none kV15 dc15 pm15 an15 cd15 ct15), sl15⟩) (c15 : PySem.W.codeIn K cd15 "need_number" = true) (k15 : PySem.W.keepIn K (.ref f15) = true)
    (a16 : PySem.W.nsIn K mainGlobals "best_houses" = some (some (.ref f16))) (l16 : K.lookup f16 = some ⟨oc16, od16, .func (PySem.W.fnOf "best_houses" "best_houses" (defArgs s_best_houses) (defBody s_best_houses) (defScope s_best_houses) .none kV16 dc16 pm16 an16 cd16 ct16), sl16⟩) (c16 : PySem.W.codeIn K cd16 "best_houses" = true) (k16 : PySem.W.keepIn K (.ref f16) = true)
    (a17 : PySem.W.nsIn K mainGlobals "first_exchange" = some (some (.ref f17))) (l17 : K.lookup f17 = some ⟨oc17, od17, .func (PySem.W.fnOf "first_exchange" "first_exchange" (defArgs s_first_exchange) (defBody s_first_exchange) (defScope s_first_exchange) .none kV17 dc17 pm17 an17 cd17 ct17), sl17⟩) (c17 : PySem.W.codeIn K cd17 "first_exchange" = true) (k17 : PySem.W.keepIn K (.ref f17) = true)
    (a18 : PySem.W.nsIn K mainGlobals "is_settled" = some (some (.ref f18))) (l18 : K.lookup f18 = some ⟨oc18, od18, .func (PySem.W.fnOf "is_settled" "is_settled" (defArgs s_is_settled) (defBody s_is_settled) (defScope s_is_settled) .none kV18 dc18 pm18 an18 cd18 ct18), sl18⟩) (c18 : PySem.W.codeIn K cd18 "is_settled" = true) (k18 : PySem.W.keepIn K (.ref f18) = true)
    (a19 : PySem.W.nsIn K mainGlobals "settled" = some (some (.ref f19))) (l19 : K.lookup f19 = some ⟨oc19, od19, .func (PySem.W.fnOf "settled" "settled" (defArgs s_settled) (defBody s_settled) (defScope s_settled) .none kV19 dc19 pm19 an19 cd19 ct19), sl19⟩) (c19 : PySem.W.codeIn K cd19 "settled" = true) (k19 : PySem.W.keepIn K (.ref f19) = true)
    (a20 : PySem.W.nsIn K mainGlobals "grown_houses" = some (some (.ref f20))) (l20 : K.lookup f20 = some ⟨oc20, od20, .func (PySem.W.fnOf "grown_houses" "grown_houses" (defArgs s_grown_houses) (defBody s_grown_houses) (defScope s_grown_houses) .none kV20 dc20 pm20 an20 cd20 ct20), sl20⟩) (c20 : PySem.W.codeIn K cd20 "grown_houses" = true) (k20 : PySem.W.keepIn K (.ref f20) = true)
    (a21 : PySem.W.nsIn K mainGlobals "_law_taken" = some (some (.ref f21))) (l21 : K.lookup f21 = some ⟨oc21, od21, .func (PySem.W.fnOf "_law_taken" "_law_taken" (defArgs s_law_taken) (defBody s_law_taken) (defScope s_law_taken) .none kV21 dc21 pm21 an21 cd21 ct21), sl21⟩) (c21 : PySem.W.codeIn K cd21 "_law_taken" = true) (k21 : PySem.W.keepIn K (.ref f21) = true)
    (a22 : PySem.W.nsIn K mainGlobals "_law_pick" = some (some (.ref f22))) (l22 : K.lookup f22 = some ⟨oc22, od22, .func (PySem.W.fnOf "_law_pick" "_law_pick" (defArgs s_law_pick) (defBody s_law_pick) (defScope s_law_pick) .none kV22 dc22 pm22 an22 cd22 ct22), sl22⟩) (c22 : PySem.W.codeIn K cd22 "_law_pick" = true) (k22 : PySem.W.keepIn K (.ref f22) = true)
    (a23 : PySem.W.nsIn K mainGlobals "_law_order" = some (some (.ref f23))) (l23 : K.lookup f23 = some ⟨oc23, od23, .func (PySem.W.fnOf "_law_order" "_law_order" (defArgs s_law_order) (defBody s_law_order) (defScope s_law_order) .none kV23 dc23 pm23 an23 cd23 ct23), sl23⟩) (c23 : PySem.W.codeIn K cd23 "_law_order" = true) (k23 : PySem.W.keepIn K (.ref f23) = true)
    (a24 : PySem.W.nsIn K mainGlobals "_law_web" = some (some (.ref f24))) (l24 : K.lookup f24 = some ⟨oc24, od24, .func (PySem.W.fnOf "_law_web" "_law_web" (defArgs s_law_web) (defBody s_law_web) (defScope s_law_web) .none kV24 dc24 pm24 an24 cd24 ct24), sl24⟩) (c24 : PySem.W.codeIn K cd24 "_law_web" = true) (k24 : PySem.W.keepIn K (.ref f24) = true)
    (a25 : PySem.W.nsIn K mainGlobals "_law_rows" = some (some (.ref f25))) (l25 : K.lookup f25 = some ⟨oc25, od25, .func (PySem.W.fnOf "_law_rows" "_law_rows" (defArgs s_law_rows) (defBody s_law_rows) (defScope s_law_rows) .none kV25 dc25 pm25 an25 cd25 ct25), sl25⟩) (c25 : PySem.W.codeIn K cd25 "_law_rows" = true) (k25 : PySem.W.keepIn K (.ref f25) = true)
    (a26 : PySem.W.nsIn K mainGlobals "_law_houses" = some (some (.ref f26))) (l26 : K.lookup f26 = some ⟨oc26, od26, .func (PySem.W.fnOf "_law_houses" "_law_houses" (defArgs s_law_houses) (defBody s_law_houses) (defScope s_law_houses) .none kV26 dc26 pm26 an26 cd26 ct26), sl26⟩) (c26 : PySem.W.codeIn K cd26 "_law_houses" = true) (k26 : PySem.W.keepIn K (.ref f26) = true)
    (a27 : PySem.W.nsIn K mainGlobals "_law_near" = some (some (.ref f27))) (l27 : K.lookup f27 = some ⟨oc27, od27, .func (PySem.W.fnOf "_law_near" "_law_near" (defArgs s_law_near) (defBody s_law_near) (defScope s_law_near) .none kV27 dc27 pm27 an27 cd27 ct27), sl27⟩) (c27 : PySem.W.codeIn K cd27 "_law_near" = true) (k27 : PySem.W.keepIn K (.ref f27) = true)
    (a28 : PySem.W.nsIn K mainGlobals "_law_sum_by" = some (some (.ref f28))) (l28 : K.lookup f28 = some ⟨oc28, od28, .func (PySem.W.fnOf "_law_sum_by" "_law_sum_by" (defArgs s_law_sum_by) (defBody s_law_sum_by) (defScope s_law_sum_by) .none kV28 dc28 pm28 an28 cd28 ct28), sl28⟩) (c28 : PySem.W.codeIn K cd28 "_law_sum_by" = true) (k28 : PySem.W.keepIn K (.ref f28) = true)
    (a29 : PySem.W.nsIn K mainGlobals "_law_alike" = some (some (.ref f29))) (l29 : K.lookup f29 = some ⟨oc29, od29, .func (PySem.W.fnOf "_law_alike" "_law_alike" (defArgs s_law_alike) (defBody s_law_alike) (defScope s_law_alike) .none kV29 dc29 pm29 an29 cd29 ct29), sl29⟩) (c29 : PySem.W.codeIn K cd29 "_law_alike" = true) (k29 : PySem.W.keepIn K (.ref f29) = true)
    (a30 : PySem.W.nsIn K mainGlobals "law" = some (some (.ref f30))) (l30 : K.lookup f30 = some ⟨oc30, od30, .func (PySem.W.fnOf "law" "law" (defArgs s_law) (defBody s_law) (defScope s_law) .none kV30 dc30 pm30 an30 cd30 ct30), sl30⟩) (c30 : PySem.W.codeIn K cd30 "law" = true) (k30 : PySem.W.keepIn K (.ref f30) = true)
    (z_isinstance : PySem.W.nsIn K mainGlobals "isinstance" = some none)
    (z_int : PySem.W.nsIn K mainGlobals "int" = some none)
    (z_bool : PySem.W.nsIn K mainGlobals "bool" = some none)
    (z_tuple : PySem.W.nsIn K mainGlobals "tuple" = some none)
    (z_list : PySem.W.nsIn K mainGlobals "list" = some none)
    (z_len : PySem.W.nsIn K mainGlobals "len" = some none)
    (z_sum : PySem.W.nsIn K mainGlobals "sum" = some none)
    (z_enumerate : PySem.W.nsIn K mainGlobals "enumerate" = some none)
    (z_range : PySem.W.nsIn K mainGlobals "range" = some none)
    (z_sorted : PySem.W.nsIn K mainGlobals "sorted" = some none)
    (z_set : PySem.W.nsIn K mainGlobals "set" = some none)
    (z_min : PySem.W.nsIn K mainGlobals "min" = some none)
    (z_zip : PySem.W.nsIn K mainGlobals "zip" = some none)
    (z_str : PySem.W.nsIn K mainGlobals "str" = some none)
    (y_MOST_POINTS : PySem.W.nsIn K mainGlobals "MOST_POINTS" = some (some (.int 8 t0)))
    (y_MOST_ROADS : PySem.W.nsIn K mainGlobals "MOST_ROADS" = some (some (.int 14 t1)))
    (y_MOST_WEIGHT : PySem.W.nsIn K mainGlobals "MOST_WEIGHT" = some (some (.int 100 t2)))
    (y_MOST_LENGTH : PySem.W.nsIn K mainGlobals "MOST_LENGTH" = some (some (.int 100 t3)))
    : ∃ fd : FuncData, (∀ (s : Shared) (v : Value), BindsTo s fd ⟨[v], []⟩ [("_law_script", v)]) ∧ ∀ base : Heap, K.In base → base.Ns mainGlobals mg → FnOk l.prog w K mg base CX0 20 fa fd ["_law_script"] (spLaw K) := by
  have e := hfa.symm.trans (PySem.W.mg_of X G a30)
  cases e
  have T : Txt K mg := ⟨PySem.W.mg_none_of X G z_isinstance, PySem.W.mg_none_of X G z_int, PySem.W.mg_none_of X G z_bool, PySem.W.mg_none_of X G z_tuple, PySem.W.mg_none_of X G z_list, PySem.W.mg_none_of X G z_len, PySem.W.mg_none_of X G z_sum, PySem.W.mg_none_of X G z_enumerate, PySem.W.mg_none_of X G z_range, PySem.W.mg_none_of X G z_sorted, PySem.W.mg_none_of X G z_set, PySem.W.mg_none_of X G z_min, PySem.W.mg_none_of X G z_zip, PySem.W.mg_none_of X G z_str, ⟨_, PySem.W.mg_of X G y_MOST_POINTS⟩, ⟨_, PySem.W.mg_of X G y_MOST_ROADS⟩, ⟨_, PySem.W.mg_of X G y_MOST_WEIGHT⟩, ⟨_, PySem.W.mg_of X G y_MOST_LENGTH⟩⟩
  have F1 := fun_mk (st := s_is_in) l1 c1 k1
  have b1 := F1.binds (ps := ["value", "least", "most"]) fun _ _ _ _ _ _ us hl => match us, hl with | [_, _, _], _ => rfl
  have F2 := fun_mk (st := s_is_road) l2 c2 k2
  have b2 := F2.binds (ps := ["value", "count"]) fun _ _ _ _ _ _ us hl => match us, hl with | [_, _], _ => rfl
  have F3 := fun_mk (st := s_is_weights) l3 c3 k3
  have b3 := F3.binds (ps := ["value"]) fun _ _ _ _ _ _ us hl => match us, hl with | [_], _ => rfl
  have F4 := fun_mk (st := s_need_web) l4 c4 k4
  have b4 := F4.binds (ps := ["web"]) fun _ _ _ _ _ _ us hl => match us, hl with | [_], _ => rfl
  have F5 := fun_mk (st := s_parts_in) l5 c5 k5
  have b5 := F5.binds (ps := ["points", "roads"]) fun _ _ _ _ _ _ us hl => match us, hl with | [_, _], _ => rfl
  have F6 := fun_mk (st := s_table_of) l6 c6 k6
  have b6 := F6.binds (ps := ["web"]) fun _ _ _ _ _ _ us hl => match us, hl with | [_], _ => rfl
  have F7 := fun_mk (st := s_need_houses) l7 c7 k7
  have b7 := F7.binds (ps := ["web", "houses"]) fun _ _ _ _ _ _ us hl => match us, hl with | [_, _], _ => rfl
  have F8 := fun_mk (st := s_near_in) l8 c8 k8
  have b8 := F8.binds (ps := ["rows", "houses"]) fun _ _ _ _ _ _ us hl => match us, hl with | [_, _], _ => rfl
  have F9 := fun_mk (st := s_need_both) l9 c9 k9
  have b9 := F9.binds (ps := ["web", "houses"]) fun _ _ _ _ _ _ us hl => match us, hl with | [_, _], _ => rfl
  have F10 := fun_mk (st := s_sum_in) l10 c10 k10
  have b10 := F10.binds (ps := ["weights", "rows", "houses"]) fun _ _ _ _ _ _ us hl => match us, hl with | [_, _, _], _ => rfl
  have F11 := fun_mk (st := s_members) l11 c11 k11
  have b11 := F11.binds (ps := ["number", "count"]) fun _ _ _ _ _ _ us hl => match us, hl with | [_, _], _ => rfl
  have F12 := fun_mk (st := s_by_size) l12 c12 k12
  have b12 := F12.binds (ps := ["count"]) fun _ _ _ _ _ _ us hl => match us, hl with | [_], _ => rfl
  have F13 := fun_mk (st := s_need_count) l13 c13 k13
  have b13 := F13.binds (ps := ["web", "count"]) fun _ _ _ _ _ _ us hl => match us, hl with | [_, _], _ => rfl
  have F14 := fun_mk (st := s_choices) l14 c14 k14
  have b14 := F14.binds (ps := ["web", "count"]) fun _ _ _ _ _ _ us hl => match us, hl with | [_, _], _ => rfl
  have F15 := fun_mk (st := s_need_number) l15 c15 k15
  have b15 := F15.binds (ps := ["web", "count"]) fun _ _ _ _ _ _ us hl => match us, hl with | [_, _], _ => rfl
  have F16 := fun_mk (st := s_best_houses) l16 c16 k16
  have b16 := F16.binds (ps := ["web", "count"]) fun _ _ _ _ _ _ us hl => match us, hl with | [_, _], _ => rfl
  have F17 := fun_mk (st := s_first_exchange) l17 c17 k17
  have b17 := F17.binds (ps := ["web", "rows", "houses"]) fun _ _ _ _ _ _ us hl => match us, hl with | [_, _, _], _ => rfl
  have F18 := fun_mk (st := s_is_settled) l18 c18 k18
  have b18 := F18.binds (ps := ["web", "houses"]) fun _ _ _ _ _ _ us hl => match us, hl with | [_, _], _ => rfl
  have F19 := fun_mk (st := s_settled) l19 c19 k19
  have b19 := F19.binds (ps := ["web", "houses"]) fun _ _ _ _ _ _ us hl => match us, hl with | [_, _], _ => rfl
  have F20 := fun_mk (st := s_grown_houses) l20 c20 k20
  have b20 := F20.binds (ps := ["web", "count"]) fun _ _ _ _ _ _ us hl => match us, hl with | [_, _], _ => rfl
  have F21 := fun_mk (st := s_law_taken) l21 c21 k21
  have b21 := F21.binds (ps := ["_law_row", "_law_many"]) fun _ _ _ _ _ _ us hl => match us, hl with | [_, _], _ => rfl
  have F22 := fun_mk (st := s_law_pick) l22 c22 k22
  have b22 := F22.binds (ps := ["_law_row", "_law_things"]) fun _ _ _ _ _ _ us hl => match us, hl with | [_, _], _ => rfl
  have F23 := fun_mk (st := s_law_order) l23 c23 k23
  have b23 := F23.binds (ps := ["_law_row", "_law_many"]) fun _ _ _ _ _ _ us hl => match us, hl with | [_, _], _ => rfl
  have F24 := fun_mk (st := s_law_web) l24 c24 k24
  have b24 := F24.binds (ps := ["_law_row", "_law_most", "_law_extra"]) fun _ _ _ _ _ _ us hl => match us, hl with | [_, _, _], _ => rfl
  have F25 := fun_mk (st := s_law_rows) l25 c25 k25
  have b25 := F25.binds (ps := ["_law_web_here"]) fun _ _ _ _ _ _ us hl => match us, hl with | [_], _ => rfl
  have F26 := fun_mk (st := s_law_houses) l26 c26 k26
  have b26 := F26.binds (ps := ["_law_row", "_law_count"]) fun _ _ _ _ _ _ us hl => match us, hl with | [_, _], _ => rfl
  have F27 := fun_mk (st := s_law_near) l27 c27 k27
  have b27 := F27.binds (ps := ["_law_rows_here", "_law_houses_here"]) fun _ _ _ _ _ _ us hl => match us, hl with | [_, _], _ => rfl
  have F28 := fun_mk (st := s_law_sum_by) l28 c28 k28
  have b28 := F28.binds (ps := ["_law_web_here", "_law_rows_here", "_law_houses_here"]) fun _ _ _ _ _ _ us hl => match us, hl with | [_, _, _], _ => rfl
  have F29 := fun_mk (st := s_law_alike) l29 c29 k29
  have b29 := F29.binds (ps := ["_law_found", "_law_due"]) fun _ _ _ _ _ _ us hl => match us, hl with | [_, _], _ => rfl
  have F30 := fun_mk (st := s_law) l30 c30 k30
  have b30 := F30.binds (ps := ["_law_script"]) fun _ _ _ _ _ _ us hl => match us, hl with | [_], _ => rfl
  have FS : Fns K mg := ⟨⟨_, _, PySem.W.mg_of X G a1, F1, b1⟩, ⟨_, _, PySem.W.mg_of X G a2, F2, b2⟩, ⟨_, _, PySem.W.mg_of X G a3, F3, b3⟩, ⟨_, _, PySem.W.mg_of X G a4, F4, b4⟩, ⟨_, _, PySem.W.mg_of X G a5, F5, b5⟩, ⟨_, _, PySem.W.mg_of X G a6, F6, b6⟩, ⟨_, _, PySem.W.mg_of X G a7, F7, b7⟩, ⟨_, _, PySem.W.mg_of X G a8, F8, b8⟩, ⟨_, _, PySem.W.mg_of X G a9, F9, b9⟩, ⟨_, _, PySem.W.mg_of X G a10, F10, b10⟩, ⟨_, _, PySem.W.mg_of X G a11, F11, b11⟩, ⟨_, _, PySem.W.mg_of X G a12, F12, b12⟩, ⟨_, _, PySem.W.mg_of X G a13, F13, b13⟩, ⟨_, _, PySem.W.mg_of X G a14, F14, b14⟩, ⟨_, _, PySem.W.mg_of X G a15, F15, b15⟩, ⟨_, _, PySem.W.mg_of X G a16, F16, b16⟩, ⟨_, _, PySem.W.mg_of X G a17, F17, b17⟩, ⟨_, _, PySem.W.mg_of X G a18, F18, b18⟩, ⟨_, _, PySem.W.mg_of X G a19, F19, b19⟩, ⟨_, _, PySem.W.mg_of X G a20, F20, b20⟩, ⟨_, _, PySem.W.mg_of X G a21, F21, b21⟩, ⟨_, _, PySem.W.mg_of X G a22, F22, b22⟩, ⟨_, _, PySem.W.mg_of X G a23, F23, b23⟩, ⟨_, _, PySem.W.mg_of X G a24, F24, b24⟩, ⟨_, _, PySem.W.mg_of X G a25, F25, b25⟩, ⟨_, _, PySem.W.mg_of X G a26, F26, b26⟩, ⟨_, _, PySem.W.mg_of X G a27, F27, b27⟩, ⟨_, _, PySem.W.mg_of X G a28, F28, b28⟩, ⟨_, _, PySem.W.mg_of X G a29, F29, b29⟩, ⟨_, _, PySem.W.mg_of X G a30, F30, b30⟩⟩
  exact ⟨PySem.W.fnOf "law" "law" (defArgs s_law) (defBody s_law) (defScope s_law) .none kV30 dc30 pm30 an30 cd30 ct30, fun s v => .of_eq rfl, fun base _ _ => ok_law T FS F30⟩
theorem walk {l : PySem.W.OpenLaw} {q : Program} {loose : List Str} {XP : (Str → Option Value) → Heap → Prop} {YP : World → Heap → Prop} {d : DefRec} {K : Params → PySem.W.Frag} (hn : l.most = some 63) (hdf : d.params.defaults = [])
    (hY : ∀ (w : World) (h : Heap), YP w h → (K w.params).In h)
    (F : ∀ (w : World) (mg : Str → Option Value) (fa : Addr) (h : Heap), (K w.params).In h → h.Ns mainGlobals mg → mg d.name = some (.ref fa) →
      ∃ fd : FuncData, (∀ (s : Shared) (u : Value), BindsTo s fd ⟨[u], []⟩ [("_law_script", u)]) ∧ ∀ base : Heap, (K w.params).In base → base.Ns mainGlobals mg → FnOk l.prog w (K w.params) mg base CX0 20 fa fd ["_law_script"] (spLaw (K w.params))) :
    PySem.W.WalkO q loose XP YP l.row.toRowW d [] (fun f vs => PySem.call f vs) :=
  L2.walk_of (n := 63) (k := 20) (x := "_law_script") (CX := fun _ => CX0) (sp := fun w => spLaw (K w.params)) hn (by decide) hdf ⟨rfl, by decide, by decide⟩ hY F (fun _ _ a ns hl _ hS => ⟨a, ns, rfl, hS, hl, fun _ => rfl⟩) fun _ _ _ _ _ z => z
end NH
open PySem PySem.W PyProof.Rows in
set_option maxRecDepth 100000 in
set_option maxHeartbeats 0 in
theorem PySem.Challenge.cw_nearhouses_k49_whole_settled_houses_holds : PySem.Challenge.rw_nearhouses_k49_whole_settled_houses.Holds := by
  w_on; o_law; k_head; (case hw => w_witness2)
  k_fill
  refine NH.walk (l := PySem.Challenge.rw_nearhouses_k49_whole_settled_houses) rfl rfl (fun w h Y => PySem.W.kIn_of Y) ?F
  case F =>
    intro w mg fa h KX G hmg
    refine' NH.all_mk KX G hmg ?a1 ?l1 ?c1 ?k1 ?a2 ?l2 ?c2 ?k2 ?a3 ?l3 ?c3 ?k3 ?a4 ?l4 ?c4 ?k4 ?a5 ?l5 ?c5 ?k5 ?a6 ?l6 ?c6 ?k6 ?a7 ?l7 ?c7 ?k7 ?a8 ?l8 ?c8 ?k8 ?a9 ?l9 ?c9 ?k9 ?a10 ?l10 ?c10 ?k10 ?a11 ?l11 ?c11 ?k11 ?a12 ?l12 ?c12 ?k12 ?a13 ?l13 ?c13 ?k13 ?a14 ?l14 ?c14 ?k14 ?a15 ?l15 ?c15 ?k15 ?a16 ?l16 ?c16 ?k16 ?a17 ?l17 ?c17 ?k17 ?a18 ?l18 ?c18 ?k18 ?a19 ?l19 ?c19 ?k19 ?a20 ?l20 ?c20 ?k20 ?a21 ?l21 ?c21 ?k21 ?a22 ?l22 ?c22 ?k22 ?a23 ?l23 ?c23 ?k23 ?a24 ?l24 ?c24 ?k24 ?a25 ?l25 ?c25 ?k25 ?a26 ?l26 ?c26 ?k26 ?a27 ?l27 ?c27 ?k27 ?a28 ?l28 ?c28 ?k28 ?a29 ?l29 ?c29 ?k29 ?a30 ?l30 ?c30 ?k30 ?z_isinstance ?z_int ?z_bool ?z_tuple ?z_list ?z_len ?z_sum ?z_enumerate ?z_range ?z_sorted ?z_set ?z_min ?z_zip ?z_str ?y_MOST_POINTS ?y_MOST_ROADS ?y_MOST_WEIGHT ?y_MOST_LENGTH
    (case a1 => k_is)
    (case l1 => k_is)
    (case c1 => k_is)
    (case k1 => k_is)
    (case a2 => k_is)
    (case l2 => k_is)
    (case c2 => k_is)
    (case k2 => k_is)
    (case a3 => k_is)
    (case l3 => k_is)
    (case c3 => k_is)
    (case k3 => k_is)
    (case a4 => k_is)
    (case l4 => k_is)
    (case c4 => k_is)
    (case k4 => k_is)
    (case a5 => k_is)
    (case l5 => k_is)
    (case c5 => k_is)
    (case k5 => k_is)
    (case a6 => k_is)
    (case l6 => k_is)
    (case c6 => k_is)
    (case k6 => k_is)
    (case a7 => k_is)
    (case l7 => k_is)
    (case c7 => k_is)
    (case k7 => k_is)
    (case a8 => k_is)
    (case l8 => k_is)
    (case c8 => k_is)
    (case k8 => k_is)
    (case a9 => k_is)
    (case l9 => k_is)
    (case c9 => k_is)
    (case k9 => k_is)
    (case a10 => k_is)
    (case l10 => k_is)
    (case c10 => k_is)
    (case k10 => k_is)
    (case a11 => k_is)
    (case l11 => k_is)
    (case c11 => k_is)
    (case k11 => k_is)
    (case a12 => k_is)
    (case l12 => k_is)
    (case c12 => k_is)
    (case k12 => k_is)
    (case a13 => k_is)
    (case l13 => k_is)
    (case c13 => k_is)
    (case k13 => k_is)
    (case a14 => k_is)
    (case l14 => k_is)
    (case c14 => k_is)
    (case k14 => k_is)
    (case a15 => k_is)
    (case l15 => k_is)
    (case c15 => k_is)
    (case k15 => k_is)
    (case a16 => k_is)
    (case l16 => k_is)
    (case c16 => k_is)
    (case k16 => k_is)
    (case a17 => k_is)
    (case l17 => k_is)
    (case c17 => k_is)
    (case k17 => k_is)
    (case a18 => k_is)
    (case l18 => k_is)
    (case c18 => k_is)
    (case k18 => k_is)
    (case a19 => k_is)
    (case l19 => k_is)
    (case c19 => k_is)
    (case k19 => k_is)
    (case a20 => k_is)
    (case l20 => k_is)
    (case c20 => k_is)
    (case k20 => k_is)
    (case a21 => k_is)
    (case l21 => k_is)
    (case c21 => k_is)
    (case k21 => k_is)
    (case a22 => k_is)
    (case l22 => k_is)
    (case c22 => k_is)
    (case k22 => k_is)
    (case a23 => k_is)
    (case l23 => k_is)
    (case c23 => k_is)
    (case k23 => k_is)
    (case a24 => k_is)
    (case l24 => k_is)
    (case c24 => k_is)
    (case k24 => k_is)
    (case a25 => k_is)
    (case l25 => k_is)
    (case c25 => k_is)
    (case k25 => k_is)
    (case a26 => k_is)
    (case l26 => k_is)
    (case c26 => k_is)
    (case k26 => k_is)
    (case a27 => k_is)
    (case l27 => k_is)
    (case c27 => k_is)
    (case k27 => k_is)
    (case a28 => k_is)
    (case l28 => k_is)
    (case c28 => k_is)
    (case k28 => k_is)
    (case a29 => k_is)
    (case l29 => k_is)
    (case c29 => k_is)
    (case k29 => k_is)
    (case a30 => k_is)
    (case l30 => k_is)
    (case c30 => k_is)
    (case k30 => k_is)
    (case z_isinstance => k_is)
    (case z_int => k_is)
    (case z_bool => k_is)
    (case z_tuple => k_is)
    (case z_list => k_is)
    (case z_len => k_is)
    (case z_sum => k_is)
    (case z_enumerate => k_is)
    (case z_range => k_is)
    (case z_sorted => k_is)
    (case z_set => k_is)
    (case z_min => k_is)
    (case z_zip => k_is)
    (case z_str => k_is)
    (case y_MOST_POINTS => k_is)
    (case y_MOST_ROADS => k_is)
    (case y_MOST_WEIGHT => k_is)
    (case y_MOST_LENGTH => k_is)
