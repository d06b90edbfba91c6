import PyProof.Rows.All
import Wide.All
import OpenK.AllK
import Wide.FinOn
import HandS.Codes
import HandS.Deep
import HandS.Evl
import HandS.ExcOwn
import HandS.ForExc
import HandS.ForMost
import HandS.IsInst
import HandS.More
import HandS.Small
import HandS.SortInts
import HandS.TryOnly
import HandS.TupAny
import HandS.TupLe
import HandS.TupLen
import HandS.Walk
import HandS.Wide
import HandS.WordsExc
import KE.GoesEnum
import KE.KDictKeyed
import KE.KDictPairs
import KE.KDictSum
import KE.KDictWalk
import KE.KEqSeq
import PyProof.DictValues
import PySem.Challenge.RW_littowers_k08_whole_tops
set_option Elab.async false
set_option linter.all false
set_option maxRecDepth 100000
set_option maxHeartbeats 8000000
/-! Distances: the two tables of the text, and that they agree. Plain Lean. -/
namespace K8
abbrev Tab := Nat → Nat → Int
abbrev Rod := Nat × Nat × Int
structure NetOk (n : Nat) (rods : List Rod) : Prop where
  n1 : 1 ≤ n
  n4 : n ≤ 4
  rod : ∀ r ∈ rods, r.1 < r.2.1 ∧ r.2.1 < n ∧ 1 ≤ r.2.2 ∧ r.2.2 ≤ 4
  asc : rods.Pairwise fun r s => r.1 < s.1 ∨ (r.1 = s.1 ∧ r.2.1 < s.2.1)
  con : ∀ p, 1 ≤ p → p < n → ∃ (q : Nat) (l : Int), q < p ∧ (q, p, l) ∈ rods

def t0 : Tab := fun i j => if i = j then 0 else 9999
def setRod (D : Tab) (r : Rod) : Tab := fun i j => if (i = r.1 ∧ j = r.2.1) ∨ (i = r.2.1 ∧ j = r.1) then min (D r.1 r.2.1) r.2.2 else D i j
def tInit (rods : List Rod) : Tab := rods.foldl setRod t0
def stepFW (D : Tab) (m : Nat) : Tab := fun i j => min (D i j) (D i m + D m j)
def fwTo (rods : List Rod) (k : Nat) : Tab := (List.range k).foldl stepFW (tInit rods)
def fw (n : Nat) (rods : List Rod) : Tab := fwTo rods n
theorem fwTo_succ (rods : List Rod) (k : Nat) : fwTo rods (k + 1) = stepFW (fwTo rods k) k := by
  unfold fwTo
  rw [List.range_succ, List.foldl_append]
  rfl
theorem foldl_keep {α β : Type} (P : β → Prop) (f : β → α → β) : ∀ (l : List α) (b : β), P b → (∀ b a, a ∈ l → P b → P (f b a)) → P (l.foldl f b)
  | [], _, h, _ => h
  | a :: l, b, h, hs => foldl_keep P f l (f b a) (hs b a (by simp) h) fun b' a' m => hs b' a' (by simp [m])
/-- what holds of the first table -/
structure Good (n : Nat) (rods : List Rod) (D : Tab) : Prop where
  diag : ∀ i, D i i = 0
  pos : ∀ i j, i ≠ j → 1 ≤ D i j
  sym : ∀ i j, D i j = D j i
  pred : ∀ i j, i ≠ j → 9999 ≤ D i j ∨ ∃ u l, u < n ∧ ((u, j, l) ∈ rods ∨ (j, u, l) ∈ rods) ∧ D i u + l ≤ D i j
theorem Good.nn {n : Nat} {rods : List Rod} {D : Tab} (g : Good n rods D) (i j : Nat) : 0 ≤ D i j := by
  by_cases h : i = j
  · rw [h, g.diag]
    exact Int.le_refl 0
  · have := g.pos i j h
    omega
theorem good0 (n : Nat) (rods : List Rod) : Good n rods t0 where
  diag i := by simp [t0]
  pos i j h := by simp [t0, h]
  sym i j := by
    unfold t0
    by_cases h : i = j
    · rw [h]
    · rw [if_neg h, if_neg (Ne.symm h)]
  pred i j h := .inl (by simp [t0, h])
theorem good_set {n : Nat} {rods : List Rod} {D : Tab} (N : NetOk n rods) (g : Good n rods D) (r : Rod) (hr : r ∈ rods) : Good n rods (setRod D r) := by
  obtain ⟨h1, h2, h3, h4⟩ := N.rod r hr
  obtain ⟨a, b, l⟩ := r
  simp only at h1 h2 h3 h4
  have dg : ∀ i, setRod D (a, b, l) i i = 0 := fun i => by
    unfold setRod
    rw [if_neg (by simp only; omega)]
    exact g.diag i
  have le : ∀ i j, setRod D (a, b, l) i j ≤ D i j := fun i j => by
    unfold setRod
    split
    · rename_i h
      rcases h with ⟨e1, e2⟩ | ⟨e1, e2⟩
      · subst e1 e2
        exact Int.min_le_left _ _
      · subst e1 e2
        rw [g.sym]
        exact Int.min_le_left _ _
    · exact Int.le_refl _
  refine ⟨dg, fun i j h => ?_, fun i j => ?_, fun i j h => ?_⟩
  · unfold setRod
    split
    · have := g.pos a b (by omega)
      simp only
      omega
    · exact g.pos i j h
  · unfold setRod
    simp only
    by_cases c : (i = a ∧ j = b) ∨ (i = b ∧ j = a)
    · rw [if_pos c, if_pos (by omega)]
    · rw [if_neg c, if_neg (by omega)]
      exact g.sym i j
  · by_cases c : (i = a ∧ j = b) ∨ (i = b ∧ j = a)
    · have e : setRod D (a, b, l) i j = min (D a b) l := by
        unfold setRod
        rw [if_pos c]
      by_cases hl : l ≤ D a b
      · right
        rcases c with ⟨e1, e2⟩ | ⟨e1, e2⟩
        · subst e1 e2
          refine ⟨i, l, by omega, .inl hr, ?_⟩
          rw [e, dg]
          omega
        · subst e1 e2
          refine ⟨i, l, by omega, .inr hr, ?_⟩
          rw [e, dg]
          omega
      · have e2 : setRod D (a, b, l) i j = D i j := by
          rw [e]
          rcases c with ⟨e1, e2⟩ | ⟨e1, e2⟩
          · subst e1 e2
            omega
          · subst e1 e2
            rw [g.sym i j]
            omega
        rcases g.pred i j h with p | ⟨u, m, hu, hm, p⟩
        · exact .inl (by omega)
        · refine .inr ⟨u, m, hu, hm, ?_⟩
          have := le i u
          omega
    · have e2 : setRod D (a, b, l) i j = D i j := by
        unfold setRod
        rw [if_neg c]
      rcases g.pred i j h with p | ⟨u, m, hu, hm, p⟩
      · exact .inl (by omega)
      · refine .inr ⟨u, m, hu, hm, ?_⟩
        have := le i u
        omega
theorem set_le {n : Nat} {rods : List Rod} {D : Tab} (g : Good n rods D) (r : Rod) (i j : Nat) : setRod D r i j ≤ D i j := by
  unfold setRod
  split
  · rename_i h
    rcases h with ⟨e1, e2⟩ | ⟨e1, e2⟩
    · rw [e1, e2]
      exact Int.min_le_left _ _
    · rw [e1, e2, g.sym]
      exact Int.min_le_left _ _
  · exact Int.le_refl _
theorem good_init {n : Nat} {rods : List Rod} (N : NetOk n rods) : Good n rods (tInit rods) :=
  foldl_keep (Good n rods) setRod rods t0 (good0 n rods) fun D r hr g => good_set N g r hr
/-- each rod's length bounds the first table -/
theorem init_rod_aux {n : Nat} {rods : List Rod} (N : NetOk n rods) : ∀ (l : List Rod) (D : Tab), (∀ r ∈ l, r ∈ rods) → Good n rods D → (∀ i j, l.foldl setRod D i j ≤ D i j) ∧ ∀ r ∈ l, l.foldl setRod D r.1 r.2.1 ≤ r.2.2
  | [], D, _, _ => ⟨fun _ _ => Int.le_refl _, fun r h => by simp at h⟩
  | a :: l, D, hs, g => by
    have g1 := good_set N g a (hs a (by simp))
    obtain ⟨q1, q2⟩ := init_rod_aux N l (setRod D a) (fun r h => hs r (by simp [h])) g1
    refine ⟨fun i j => Int.le_trans (q1 i j) (set_le g a i j), fun r h => ?_⟩
    rcases List.mem_cons.mp h with e | h
    · subst e
      refine Int.le_trans (q1 _ _) ?_
      unfold setRod
      rw [if_pos (.inl ⟨rfl, rfl⟩)]
      exact Int.min_le_right _ _
    · exact q2 r h
theorem init_rod {n : Nat} {rods : List Rod} (N : NetOk n rods) (r : Rod) (h : r ∈ rods) : tInit rods r.1 r.2.1 ≤ r.2.2 := (init_rod_aux N rods t0 (fun _ h => h) (good0 n rods)).2 r h
theorem good_step {n : Nat} {rods : List Rod} {D : Tab} (g : Good n rods D) (m : Nat) : Good n rods (stepFW D m) := by
  have nn := g.nn
  refine ⟨fun i => ?_, fun i j h => ?_, fun i j => ?_, fun i j h => ?_⟩
  · have h1 := nn i m
    have h2 := nn m i
    have h3 := g.diag i
    unfold stepFW
    omega
  · have h1 := g.pos i j h
    have h2 := nn i m
    have h3 := nn m j
    have h4 : 1 ≤ D i m + D m j := by
      by_cases c : i = m
      · subst c
        omega
      · have := g.pos i m c
        omega
    unfold stepFW
    omega
  · unfold stepFW
    rw [g.sym i j, g.sym i m, g.sym m j, Int.add_comm]
  · have le : ∀ i j, stepFW D m i j ≤ D i j := fun i j => Int.min_le_left _ _
    by_cases c : D i j ≤ D i m + D m j
    · have e : stepFW D m i j = D i j := by
        unfold stepFW
        omega
      rcases g.pred i j h with p | ⟨u, k, hu, hm, p⟩
      · exact .inl (by omega)
      · exact .inr ⟨u, k, hu, hm, by have := le i u; omega⟩
    · have e : stepFW D m i j = D i m + D m j := by
        unfold stepFW
        omega
      have hne : m ≠ j := fun z => by
        subst z
        have := g.diag m
        omega
      rcases g.pred m j hne with p | ⟨u, k, hu, hm, p⟩
      · have := nn i m
        exact .inl (by omega)
      · refine .inr ⟨u, k, hu, hm, ?_⟩
        have : stepFW D m i u ≤ D i m + D m u := Int.min_le_right _ _
        omega
theorem good_to {n : Nat} {rods : List Rod} (N : NetOk n rods) : ∀ k, Good n rods (fwTo rods k)
  | 0 => good_init N
  | k + 1 => by
    rw [fwTo_succ]
    exact good_step (good_to N k) k
theorem fwTo_le {rods : List Rod} (k : Nat) : ∀ i j, fwTo rods k i j ≤ tInit rods i j := by
  induction k with
  | zero => exact fun i j => Int.le_refl _
  | succ k ih =>
    intro i j
    rw [fwTo_succ]
    exact Int.le_trans (Int.min_le_left _ _) (ih i j)
/-- shut under the middles so far -/
theorem shut {n : Nat} {rods : List Rod} (N : NetOk n rods) : ∀ (k m : Nat), m < k → ∀ i j, fwTo rods k i j ≤ fwTo rods k i m + fwTo rods k m j := by
  intro k
  induction k with
  | zero => intro m hm; omega
  | succ k ih =>
    intro m hm i j
    have g := good_to N k
    rw [fwTo_succ]
    have dk := g.diag k
    by_cases c : m = k
    · subst c
      unfold stepFW
      omega
    · have hm' : m < k := by omega
      have a1 := ih m hm' i j
      have a2 := ih m hm' i k
      have a3 := ih m hm' k j
      have a4 := g.nn k m
      have a5 := g.nn m k
      unfold stepFW
      omega
/-- the table of distances: a metric, and short -/
structure Metric (n : Nat) (D : Tab) : Prop where
  diag : ∀ i, D i i = 0
  pos : ∀ i j, i ≠ j → 1 ≤ D i j
  sym : ∀ i j, D i j = D j i
  tri : ∀ i j m, m < n → D i j ≤ D i m + D m j
  top : ∀ i j, i < n → j < n → D i j ≤ 24
theorem Metric.nn {n : Nat} {D : Tab} (g : Metric n D) (i j : Nat) : 0 ≤ D i j := by
  by_cases h : i = j
  · rw [h, g.diag]
    exact Int.le_refl 0
  · have := g.pos i j h
    omega
theorem fw_rod {n : Nat} {rods : List Rod} (N : NetOk n rods) (r : Rod) (h : r ∈ rods) : fw n rods r.1 r.2.1 ≤ r.2.2 := Int.le_trans (fwTo_le n _ _) (init_rod N r h)
theorem fw_zero {n : Nat} {rods : List Rod} (N : NetOk n rods) : ∀ p, p < n → fw n rods 0 p ≤ 4 * (p : Int) := by
  intro p
  induction p using Nat.strongRecOn with
  | ind p ih =>
    intro hp
    by_cases c : p = 0
    · subst c
      have := (good_to N n).diag 0
      show fwTo rods n 0 0 ≤ _
      omega
    · obtain ⟨q, l, hq, hm⟩ := N.con p (by omega) hp
      have h1 := ih q hq (by omega)
      have h2 := fw_rod N _ hm
      have h3 := N.rod _ hm
      have h4 : fw n rods 0 p ≤ fw n rods 0 q + fw n rods q p := shut N n q (by omega) 0 p
      simp only at h2 h3
      omega
theorem fw_metric {n : Nat} {rods : List Rod} (N : NetOk n rods) : Metric n (fw n rods) where
  diag := (good_to N n).diag
  pos := (good_to N n).pos
  sym := (good_to N n).sym
  tri i j m hm := shut N n m hm i j
  top i j hi hj := by
    have h1 := fw_zero N i hi
    have h2 := fw_zero N j hj
    have h3 : fw n rods i j ≤ fw n rods i 0 + fw n rods 0 j := shut N n 0 (by have := N.n1; omega) i j
    have h4 : fw n rods i 0 = fw n rods 0 i := (good_to N n).sym i 0
    have := N.n4
    omega
/-- a step along a rod; the last rod of a shortest way -/
theorem fw_relax {n : Nat} {rods : List Rod} (N : NetOk n rods) {a b : Nat} {l : Int} (h : (a, b, l) ∈ rods) (i : Nat) : fw n rods i b ≤ fw n rods i a + l ∧ fw n rods i a ≤ fw n rods i b + l := by
  have M := fw_metric N
  have h1 := fw_rod N _ h
  have h2 := N.rod _ h
  simp only at h1 h2
  have h3 := M.tri i b a (by omega)
  have h4 := M.tri i a b (by omega)
  have h5 := M.sym b a
  omega
theorem fw_pred {n : Nat} {rods : List Rod} (N : NetOk n rods) {i j : Nat} (h : i ≠ j) (hi : i < n) (hj : j < n) : ∃ u l, u < n ∧ ((u, j, l) ∈ rods ∨ (j, u, l) ∈ rods) ∧ fw n rods i u + l ≤ fw n rods i j := by
  rcases (good_to N n).pred i j h with p | p
  · have p : 9999 ≤ fw n rods i j := p
    have := (fw_metric N).top i j hi hj
    omega
  · exact p

/-! the law's own table -/
def b0 : Tab := fun i j => if i = j then 0 else 999
def relax (D : Tab) (r : Rod) : Tab := fun p v => if v = r.1 then min (D p r.1) (D p r.2.1 + r.2.2) else if v = r.2.1 then min (D p r.2.1) (min (D p r.1) (D p r.2.1 + r.2.2) + r.2.2) else D p v
def bfTo (rods : List Rod) (k : Nat) : Tab := (List.range k).foldl (fun D _ => rods.foldl relax D) b0
theorem bfTo_succ (rods : List Rod) (k : Nat) : bfTo rods (k + 1) = rods.foldl relax (bfTo rods k) := by
  unfold bfTo
  rw [List.range_succ, List.foldl_append]
  rfl
/-- never below the distance -/
def Over (n : Nat) (rods : List Rod) (B : Tab) : Prop := ∀ i j, i < n → j < n → fw n rods i j ≤ B i j
theorem over_relax {n : Nat} {rods : List Rod} (N : NetOk n rods) {B : Tab} (h : Over n rods B) (r : Rod) (hr : r ∈ rods) : Over n rods (relax B r) := by
  obtain ⟨a, b, l⟩ := r
  have hb := N.rod _ hr
  simp only at hb
  intro i j hi hj
  have q := fw_relax N hr i
  have q1 := h i a hi (by omega)
  have q2 := h i b hi hb.2.1
  have q3 := h i j hi hj
  unfold relax
  simp only
  split
  · rename_i e
    subst e
    omega
  · split
    · rename_i e
      subst e
      omega
    · exact q3
theorem relax_le (B : Tab) (r : Rod) (hr : 0 ≤ r.2.2) (i j : Nat) : relax B r i j ≤ B i j := by
  unfold relax
  split
  · rename_i e
    rw [e]
    exact Int.min_le_left _ _
  · split
    · rename_i e
      rw [e]
      exact Int.min_le_left _ _
    · exact Int.le_refl _
theorem relax_rod (B : Tab) (a b : Nat) (l : Int) (hl : 0 ≤ l) (hab : a ≠ b) (i : Nat) : relax B (a, b, l) i b ≤ B i a + l ∧ relax B (a, b, l) i a ≤ B i b + l := by
  unfold relax
  simp only [if_neg (Ne.symm hab), if_true]
  omega
theorem pass {n : Nat} {rods : List Rod} (N : NetOk n rods) : ∀ (l : List Rod) (B : Tab), (∀ r ∈ l, r ∈ rods) → Over n rods B →
    Over n rods (l.foldl relax B) ∧ (∀ i j, l.foldl relax B i j ≤ B i j) ∧ ∀ a b k, (a, b, k) ∈ l → ∀ i, l.foldl relax B i b ≤ B i a + k ∧ l.foldl relax B i a ≤ B i b + k
  | [], B, _, h => ⟨h, fun _ _ => Int.le_refl _, fun _ _ _ m => by simp at m⟩
  | r :: l, B, hs, h => by
    have hr := hs r (by simp)
    have hb := N.rod _ hr
    obtain ⟨q1, q2, q3⟩ := pass N l (relax B r) (fun r h => hs r (by simp [h])) (over_relax N h r hr)
    have dn := relax_le B r (by omega)
    refine ⟨q1, fun i j => Int.le_trans (q2 i j) (dn i j), fun a b k m i => ?_⟩
    rcases List.mem_cons.mp m with e | m
    · subst e
      simp only at hb
      have := relax_rod B a b k (by omega) (by omega) i
      exact ⟨Int.le_trans (q2 i b) this.1, Int.le_trans (q2 i a) this.2⟩
    · have := q3 a b k m i
      have d1 := dn i a
      have d2 := dn i b
      rw [List.foldl_cons]
      exact ⟨by omega, by omega⟩
theorem over_to {n : Nat} {rods : List Rod} (N : NetOk n rods) : ∀ k, Over n rods (bfTo rods k)
  | 0 => fun i j hi hj => by
    show fw n rods i j ≤ b0 i j
    unfold b0
    split
    · rename_i e
      subst e
      have := (fw_metric N).diag i
      omega
    · have := (fw_metric N).top i j hi hj
      omega
  | k + 1 => by
    rw [bfTo_succ]
    exact (pass N rods _ (fun _ h => h) (over_to N k)).1
theorem countP_lt {α : Type} (p q : α → Bool) : ∀ (l : List α) (x : α), x ∈ l → (∀ y, p y = true → q y = true) → p x = false → q x = true → l.countP p < l.countP q
  | [], x, h, _, _, _ => by simp at h
  | y :: l, x, h, hpq, hp, hq => by
    have le : l.countP p ≤ l.countP q := List.countP_mono_left fun z _ hz => hpq z hz
    rw [List.countP_cons, List.countP_cons]
    rcases List.mem_cons.mp h with e | h
    · subst e
      rw [hp, hq]
      simp
      omega
    · have ih := countP_lt p q l x h hpq hp hq
      have : (if p y = true then 1 else 0) ≤ (if q y = true then 1 else 0) := by
        by_cases c : p y = true
        · rw [if_pos c, if_pos (hpq y c)]
          exact Nat.le_refl 1
        · rw [if_neg c]
          exact Nat.zero_le _
      omega
def rank (n : Nat) (D : Tab) (i v : Nat) : Nat := (List.range n).countP fun x => decide (D i x < D i v)
theorem rank_lt {n : Nat} {D : Tab} {i u v : Nat} (hu : u < n) (h : D i u < D i v) : rank n D i u < rank n D i v := by
  refine countP_lt _ _ (List.range n) u (List.mem_range.mpr hu) (fun y hy => ?_) (by simp) (by simp [h])
  simp only [decide_eq_true_eq] at hy ⊢
  omega
theorem rank_n {n : Nat} {D : Tab} {i v : Nat} (hv : v < n) : rank n D i v < n := by
  have h : rank n D i v < (List.range n).countP (fun _ => true) := countP_lt _ _ (List.range n) v (List.mem_range.mpr hv) (fun _ _ => rfl) (by simp) rfl
  have e : (List.range n).countP (fun _ => true) = n := by
    rw [List.countP_eq_length.mpr (fun _ _ => rfl), List.length_range]
  omega
theorem reach {n : Nat} {rods : List Rod} (N : NetOk n rods) : ∀ k i v, i < n → v < n → rank n (fw n rods) i v ≤ k → bfTo rods k i v ≤ fw n rods i v := by
  intro k
  induction k with
  | zero =>
    intro i v hi hv hr
    by_cases e : i = v
    · subst e
      have : bfTo rods 0 i i = 0 := if_pos rfl
      have := (fw_metric N).diag i
      omega
    · exfalso
      have h1 := (fw_metric N).pos i v e
      have h2 := (fw_metric N).diag i
      have := rank_lt (n := n) (D := fw n rods) (i := i) (u := i) (v := v) hi (by omega)
      omega
  | succ k ih =>
    intro i v hi hv hr
    rw [bfTo_succ]
    have P := pass N rods (bfTo rods k) (fun _ h => h) (over_to N k)
    by_cases e : i = v
    · subst e
      have h0 : bfTo rods k i i ≤ fw n rods i i := ih i i hi hi (by
        have : rank n (fw n rods) i i = 0 := by
          unfold rank
          rw [List.countP_eq_zero]
          intro x _
          have := (fw_metric N).nn i x
          have := (fw_metric N).diag i
          simp only [decide_eq_true_eq]
          omega
        omega)
      exact Int.le_trans (P.2.1 i i) h0
    · obtain ⟨u, l, hu, hm, hp⟩ := fw_pred N e hi hv
      have hl : 1 ≤ l := by
        rcases hm with m | m
        · exact (N.rod _ m).2.2.1
        · exact (N.rod _ m).2.2.1
      have h1 := ih i u hi hu (by
        have := rank_lt (n := n) (D := fw n rods) (i := i) (u := u) (v := v) hu (by omega)
        omega)
      rcases hm with m | m
      · have := (P.2.2 u v l m i).1
        omega
      · have := (P.2.2 v u l m i).2
        omega
theorem bf_is_fw {n : Nat} {rods : List Rod} (N : NetOk n rods) {i j : Nat} (hi : i < n) (hj : j < n) : bfTo rods n i j = fw n rods i j := by
  have h1 := over_to N n i j hi hj
  have h2 := reach N n i j hi hj (Nat.le_of_lt (rank_n hj))
  omega
end K8
/-! Tops, covers, rows: the plain law. -/
namespace K8
abbrev Top := Nat × Int
/-! greatest and least of a list -/
def lmax : List Int → Int
  | [] => 0
  | [x] => x
  | x :: y :: r => max x (lmax (y :: r))
def lmin : List Int → Int
  | [] => 0
  | [x] => x
  | x :: y :: r => min x (lmin (y :: r))
theorem le_lmax : ∀ {l : List Int} {x : Int}, x ∈ l → x ≤ lmax l
  | [], _, h => by simp at h
  | [y], x, h => by
    have : x = y := by simpa using h
    subst this
    exact Int.le_refl _
  | y :: z :: r, x, h => by
    show x ≤ max y (lmax (z :: r))
    rcases List.mem_cons.mp h with e | h
    · omega
    · have := le_lmax h
      omega
theorem lmax_mem : ∀ {l : List Int}, l ≠ [] → lmax l ∈ l
  | [], h => absurd rfl h
  | [y], _ => by simp [lmax]
  | y :: z :: r, _ => by
    have ih := lmax_mem (l := z :: r) (by simp)
    show max y (lmax (z :: r)) ∈ y :: z :: r
    by_cases c : lmax (z :: r) ≤ y
    · rw [Int.max_eq_left c]
      simp
    · rw [Int.max_eq_right (by omega)]
      exact List.mem_cons_of_mem _ ih
theorem lmax_eq {l : List Int} {m : Int} (h : m ∈ l) (k : ∀ x ∈ l, x ≤ m) : lmax l = m := by
  have h1 := le_lmax h
  have h2 := k _ (lmax_mem (List.ne_nil_of_mem h))
  omega
theorem lmin_le : ∀ {l : List Int} {x : Int}, x ∈ l → lmin l ≤ x
  | [], _, h => by simp at h
  | [y], x, h => by
    have : x = y := by simpa using h
    subst this
    exact Int.le_refl _
  | y :: z :: r, x, h => by
    show min y (lmin (z :: r)) ≤ x
    rcases List.mem_cons.mp h with e | h
    · omega
    · have := lmin_le h
      omega
theorem lmin_mem : ∀ {l : List Int}, l ≠ [] → lmin l ∈ l
  | [], h => absurd rfl h
  | [y], _ => by simp [lmin]
  | y :: z :: r, _ => by
    have ih := lmin_mem (l := z :: r) (by simp)
    show min y (lmin (z :: r)) ∈ y :: z :: r
    by_cases c : y ≤ lmin (z :: r)
    · rw [Int.min_eq_left c]
      simp
    · rw [Int.min_eq_right (by omega)]
      exact List.mem_cons_of_mem _ ih
theorem lmin_eq {l : List Int} {m : Int} (h : m ∈ l) (k : ∀ x ∈ l, m ≤ x) : lmin l = m := by
  have h1 := lmin_le h
  have h2 := k _ (lmin_mem (List.ne_nil_of_mem h))
  omega
/-! strictly rising lists of places -/
theorem rise_eq : ∀ {l m : List Nat}, l.Pairwise (· < ·) → m.Pairwise (· < ·) → (∀ x, x ∈ l ↔ x ∈ m) → l = m
  | [], [], _, _, _ => rfl
  | [], y :: m, _, _, h => by
    have := (h y).mpr (by simp)
    simp at this
  | x :: l, [], _, _, h => by
    have := (h x).mp (by simp)
    simp at this
  | x :: l, y :: m, hl, hm, h => by
    rw [List.pairwise_cons] at hl hm
    have exy : x = y := by
      have h1 : x ∈ y :: m := (h x).mp (by simp)
      have h2 : y ∈ x :: l := (h y).mpr (by simp)
      rcases List.mem_cons.mp h1 with e | h1
      · exact e
      · rcases List.mem_cons.mp h2 with e | h2
        · exact e.symm
        · have a := hm.1 x h1
          have b := hl.1 y h2
          omega
    subst exy
    rw [rise_eq hl.2 hm.2 fun z => ?_]
    constructor
    · intro hz
      have a := hl.1 z hz
      rcases List.mem_cons.mp ((h z).mp (List.mem_cons_of_mem _ hz)) with e | q
      · omega
      · exact q
    · intro hz
      have a := hm.1 z hz
      rcases List.mem_cons.mp ((h z).mpr (List.mem_cons_of_mem _ hz)) with e | q
      · omega
      · exact q
theorem range_rise (n : Nat) : (List.range n).Pairwise (· < ·) := List.pairwise_lt_range
theorem rise_filter {l : List Nat} {n : Nat} (hl : l.Pairwise (· < ·)) (hn : ∀ x ∈ l, x < n) : (List.range n).filter (fun x => decide (x ∈ l)) = l :=
  rise_eq ((range_rise n).filter _) hl fun x => by
    rw [List.mem_filter, List.mem_range, decide_eq_true_eq]
    exact ⟨fun h => h.2, fun h => ⟨hn x h, h⟩⟩
/-! tops -/
structure TopsOk (n : Nat) (lim : Int) (tops : List Top) : Prop where
  ne : tops ≠ []
  asc : tops.Pairwise fun t u => t.1 < u.1
  at_ : ∀ t ∈ tops, t.1 < n ∧ 0 ≤ t.2 ∧ t.2 ≤ lim
def places (tops : List Top) : List Nat := tops.map (·.1)
theorem TopsOk.rise {n : Nat} {lim : Int} {tops : List Top} (T : TopsOk n lim tops) : (places tops).Pairwise (· < ·) := List.pairwise_map.mpr T.asc
theorem TopsOk.lt {n : Nat} {lim : Int} {tops : List Top} (T : TopsOk n lim tops) : ∀ p ∈ places tops, p < n := fun p h => by
  obtain ⟨t, ht, rfl⟩ := List.mem_map.mp h
  exact (T.at_ t ht).1
def cov (D : Tab) (tops : List Top) (q : Nat) : Int := lmax (tops.map fun t => t.2 - D t.1 q)
def rest (n : Nat) (tops : List Top) : List Nat := (List.range n).filter fun q => !decide (q ∈ places tops)
def absI (x : Int) : Int := if x < 0 then -x else x
def touch (D : Tab) (t u : Top) : Bool := decide (D t.1 u.1 ≤ absI (t.2 - u.2))
def clashes (D : Tab) : List Top → List (Nat × Nat)
  | [] => []
  | t :: r => ((r.filter (touch D t)).map fun u => (t.1, u.1)) ++ clashes D r
theorem clashes_nil {D : Tab} : ∀ {tops : List Top}, clashes D tops = [] ↔ tops.Pairwise fun t u => touch D t u = false
  | [] => by simp [clashes]
  | t :: r => by
    unfold clashes
    rw [List.append_eq_nil_iff, List.map_eq_nil_iff, List.filter_eq_nil_iff, List.pairwise_cons, clashes_nil]
    simp
theorem absI_comm (x y : Int) : absI (x - y) = absI (y - x) := by
  unfold absI
  split <;> split <;> omega
theorem touch_false {D : Tab} {t u : Top} (h : touch D t u = false) : t.2 - u.2 < D t.1 u.1 ∧ u.2 - t.2 < D t.1 u.1 := by
  unfold touch absI at h
  simp only [decide_eq_false_iff_not] at h
  split at h <;> omega
theorem touch_of {D : Tab} {t u : Top} (h1 : t.2 - u.2 < D t.1 u.1) (h2 : u.2 - t.2 < D t.1 u.1) : touch D t u = false := by
  unfold touch absI
  simp only [decide_eq_false_iff_not]
  split <;> omega
/-- no clash, told of any two tops -/
theorem calm_two {n : Nat} {D : Tab} (M : Metric n D) {tops : List Top} (hasc : tops.Pairwise fun t u => t.1 < u.1) (h : clashes D tops = []) : ∀ t ∈ tops, ∀ u ∈ tops, t.1 ≠ u.1 → u.2 - t.2 < D t.1 u.1 := by
  have h2 := hasc.and (clashes_nil.mp h)
  intro t ht u hu hne
  obtain ⟨i, hi, rfl⟩ := List.getElem_of_mem ht
  obtain ⟨j, hj, rfl⟩ := List.getElem_of_mem hu
  rw [List.pairwise_iff_getElem] at h2
  rcases Nat.lt_trichotomy i j with c | c | c
  · exact (touch_false (h2 i j hi hj c).2).2
  · subst c
    exact absurd rfl hne
  · have := (touch_false (h2 j i hj hi c).2).1
    rw [M.sym] at this
    exact this
/-! rows -/
def hv (h : List Int) (p : Nat) : Int := h.getD p 0
def over (D : Tab) (h : List Int) (q : Nat) : List Nat := (List.range h.length).filter fun p => decide (p ≠ q) && decide (hv h q ≤ hv h p - D p q)
def lit (D : Tab) (h : List Int) : List Nat := (List.range h.length).filter fun q => decide (over D h q = [])
def topsOf (D : Tab) (h : List Int) : List Top := (lit D h).map fun p => (p, hv h p)
theorem over_nil {D : Tab} {h : List Int} {q : Nat} : over D h q = [] ↔ ∀ p, p < h.length → p ≠ q → hv h p - D p q < hv h q := by
  unfold over
  rw [List.filter_eq_nil_iff]
  constructor
  · intro k p hp hne
    have := k p (List.mem_range.mpr hp)
    simp only [Bool.and_eq_true, decide_eq_true_eq, not_and] at this
    have := this hne
    omega
  · intro k p hp
    simp only [Bool.and_eq_true, decide_eq_true_eq, not_and]
    intro hne
    have := k p (List.mem_range.mp hp) hne
    omega
theorem mem_lit {D : Tab} {h : List Int} {q : Nat} : q ∈ lit D h ↔ q < h.length ∧ ∀ p, p < h.length → p ≠ q → hv h p - D p q < hv h q := by
  unfold lit
  rw [List.mem_filter, List.mem_range, decide_eq_true_eq, over_nil]
theorem lit_rise (D : Tab) (h : List Int) : (lit D h).Pairwise (· < ·) := (range_rise _).filter _
theorem places_topsOf (D : Tab) (h : List Int) : places (topsOf D h) = lit D h := by
  unfold places topsOf
  rw [List.map_map]
  exact List.map_id _
/-- a hider of a hider hides: some lit place hides it, or it is lit -/
theorem lit_hider {n : Nat} {D : Tab} (M : Metric n D) {h : List Int} (hl : h.length = n) : ∀ (m : Nat) (q : Nat), q < n → (List.range n).countP (fun x => decide (hv h q < hv h x)) ≤ m → ∃ p ∈ lit D h, hv h q ≤ hv h p - D p q := by
  intro m
  induction m with
  | zero =>
    intro q hq hm
    refine ⟨q, mem_lit.mpr ⟨by omega, fun p hp hne => ?_⟩, ?_⟩
    · have z : (List.range n).countP (fun x => decide (hv h q < hv h x)) = 0 := by omega
      rw [List.countP_eq_zero] at z
      have z1 := z p (List.mem_range.mpr (by omega))
      simp only [decide_eq_true_eq] at z1
      have := M.pos p q hne
      omega
    · have := M.diag q
      omega
  | succ m ih =>
    intro q hq hm
    by_cases c : q ∈ lit D h
    · refine ⟨q, c, ?_⟩
      have := M.diag q
      omega
    · have : ∃ p, p < n ∧ p ≠ q ∧ hv h q ≤ hv h p - D p q := by
        apply Classical.byContradiction
        intro no
        refine c (mem_lit.mpr ⟨by omega, fun p hp hne => ?_⟩)
        apply Classical.byContradiction
        intro k
        exact no ⟨p, by omega, hne, by omega⟩
      obtain ⟨p, hp, hne, hpq⟩ := this
      have hpos := M.pos p q hne
      obtain ⟨r, hr, hrp⟩ := ih p hp (by
        have := countP_lt (fun x => decide (hv h p < hv h x)) (fun x => decide (hv h q < hv h x)) (List.range n) p (List.mem_range.mpr hp) (fun y hy => by
          simp only [decide_eq_true_eq] at hy ⊢
          omega) (by simp) (by simp; omega)
        omega)
      refine ⟨r, hr, ?_⟩
      have hr2 := (mem_lit.mp hr).1
      have := M.tri r q p hp
      omega
theorem lit_over {n : Nat} {D : Tab} (M : Metric n D) {h : List Int} (hl : h.length = n) {q : Nat} (hq : q < n) : ∃ p ∈ lit D h, hv h q ≤ hv h p - D p q := lit_hider M hl _ q hq (Nat.le_refl _)
theorem lit_ne {n : Nat} {D : Tab} (M : Metric n D) {h : List Int} (hl : h.length = n) (hn : 1 ≤ n) : lit D h ≠ [] := by
  obtain ⟨p, hp, _⟩ := lit_over M hl (q := 0) (by omega)
  exact List.ne_nil_of_mem hp
theorem topsOf_ok {n : Nat} {lim : Int} {D : Tab} (M : Metric n D) {h : List Int} (hl : h.length = n) (hn : 1 ≤ n) (hb : ∀ p, p < n → 0 ≤ hv h p ∧ hv h p ≤ lim) : TopsOk n lim (topsOf D h) where
  ne e := lit_ne M hl hn (List.map_eq_nil_iff.mp e)
  asc := List.pairwise_map.mpr (lit_rise D h)
  at_ t ht := by
    obtain ⟨p, hp, rfl⟩ := List.mem_map.mp ht
    have := (mem_lit.mp hp).1
    exact ⟨by simp only; omega, hb p (by omega)⟩
theorem topsOf_calm {n : Nat} {D : Tab} (M : Metric n D) {h : List Int} (hl : h.length = n) : clashes D (topsOf D h) = [] := by
  rw [clashes_nil]
  have a : (topsOf D h).Pairwise fun t u => t.1 < u.1 := List.pairwise_map.mpr (lit_rise D h)
  refine a.imp_of_mem fun {t u} ht hu hlt => ?_
  obtain ⟨p, hp, rfl⟩ := List.mem_map.mp ht
  obtain ⟨r, hr, rfl⟩ := List.mem_map.mp hu
  simp only at hlt
  have h1 := mem_lit.mp hp
  have h2 := mem_lit.mp hr
  have k1 := h1.2 r h2.1 (by omega)
  have k2 := h2.2 p h1.1 (by omega)
  have := M.sym p r
  exact touch_of (by simp only; omega) (by simp only; omega)
/-! what a place may have -/
def told (tops : List Top) (q : Nat) : Option Int := (tops.find? fun t => decide (t.1 = q)).map (·.2)
theorem told_some {tops : List Top} (asc : tops.Pairwise fun t u => t.1 < u.1) {t : Top} (ht : t ∈ tops) : told tops t.1 = some t.2 := by
  unfold told
  induction tops with
  | nil => simp at ht
  | cons u r ih =>
    rw [List.pairwise_cons] at asc
    rcases List.mem_cons.mp ht with e | h
    · subst e
      simp
    · have := asc.1 t h
      rw [List.find?_cons, show decide (u.1 = t.1) = false by simp; omega]
      exact ih asc.2 h
theorem told_none {tops : List Top} {q : Nat} : told tops q = none ↔ q ∉ places tops := by
  unfold told places
  rw [Option.map_eq_none_iff, List.find?_eq_none]
  simp only [decide_eq_true_eq, List.mem_map, not_exists, not_and]
theorem told_mem {tops : List Top} {q : Nat} {x : Int} (h : told tops q = some x) : (q, x) ∈ tops := by
  unfold told at h
  obtain ⟨t, ht, e⟩ := Option.map_eq_some_iff.mp h
  have h1 := List.mem_of_find?_eq_some ht
  have h2 := List.find?_some ht
  simp only [decide_eq_true_eq] at h2
  have : t = (q, x) := by
    rw [← h2, ← e]
  rw [← this]
  exact h1
def okAt (D : Tab) (tops : List Top) (q : Nat) (x : Int) : Bool := match told tops q with
  | some y => decide (x = y)
  | none => decide (x ≤ cov D tops q)
theorem le_cov {D : Tab} {tops : List Top} {t : Top} (h : t ∈ tops) (q : Nat) : t.2 - D t.1 q ≤ cov D tops q := le_lmax (List.mem_map.mpr ⟨t, h, rfl⟩)
theorem cov_at {D : Tab} {tops : List Top} (h : tops ≠ []) (q : Nat) : ∃ t ∈ tops, cov D tops q = t.2 - D t.1 q := by
  obtain ⟨t, ht, e⟩ := List.mem_map.mp (lmax_mem (l := tops.map fun t => t.2 - D t.1 q) (by simpa using h))
  exact ⟨t, ht, e.symm⟩
theorem tops_iff {n : Nat} {lim : Int} {D : Tab} (M : Metric n D) {tops : List Top} (T : TopsOk n lim tops) {h : List Int} (hl : h.length = n) :
    topsOf D h = tops ↔ clashes D tops = [] ∧ ∀ q, q < n → okAt D tops q (hv h q) = true := by
  constructor
  · intro e
    refine ⟨by rw [← e]; exact topsOf_calm M hl, fun q hq => ?_⟩
    unfold okAt
    have mem : ∀ p, p ∈ lit D h → (p, hv h p) ∈ tops := fun p hp => by
      rw [← e]
      exact List.mem_map.mpr ⟨p, hp, rfl⟩
    cases c : told tops q with
    | some y =>
      have : (q, y) ∈ topsOf D h := by
        rw [e]
        exact told_mem c
      obtain ⟨p, hp, ep⟩ := List.mem_map.mp this
      injection ep with e1 e2
      subst e1
      simp [e2]
    | none =>
      obtain ⟨p, hp, hh⟩ := lit_over M hl hq
      have := le_cov (D := D) (mem p hp) q
      simp only at this ⊢
      simp only [decide_eq_true_eq]
      omega
  · rintro ⟨hc, hok⟩
    have two := calm_two M T.asc hc
    have at_top : ∀ t ∈ tops, hv h t.1 = t.2 := fun t ht => by
      have := hok t.1 (T.at_ t ht).1
      unfold okAt at this
      rw [told_some T.asc ht] at this
      simpa using this
    have low : ∀ q, q < n → q ∉ places tops → hv h q ≤ cov D tops q := fun q hq hn => by
      have := hok q hq
      unfold okAt at this
      rw [told_none.mpr hn] at this
      simpa using this
    have lp : lit D h = places tops := by
      refine rise_eq (lit_rise D h) T.rise fun q => ?_
      constructor
      · intro hq
        obtain ⟨h1, h2⟩ := mem_lit.mp hq
        apply Classical.byContradiction
        intro hn
        have := low q (by omega) hn
        obtain ⟨t, ht, et⟩ := cov_at (D := D) T.ne q
        have hne : t.1 ≠ q := fun z => hn (List.mem_map.mpr ⟨t, ht, z⟩)
        have := h2 t.1 (by have := (T.at_ t ht).1; omega) hne
        rw [at_top t ht] at this
        omega
      · intro hq
        obtain ⟨t, ht, rfl⟩ := List.mem_map.mp hq
        have htn := (T.at_ t ht).1
        refine mem_lit.mpr ⟨by omega, fun p hp hne => ?_⟩
        rw [at_top t ht]
        by_cases c : p ∈ places tops
        · obtain ⟨u, hu, rfl⟩ := List.mem_map.mp c
          rw [at_top u hu]
          have := two t ht u hu (Ne.symm hne)
          have := M.sym t.1 u.1
          omega
        · have h1 := low p (by omega) c
          obtain ⟨u, hu, eu⟩ := cov_at (D := D) T.ne p
          have d1 := M.pos p t.1 hne
          have hup : u.1 ≠ p := fun z => c (List.mem_map.mpr ⟨u, hu, z⟩)
          have d2 := M.pos u.1 p hup
          by_cases e : u.1 = t.1
          · have hu2 := at_top u hu
            have ht2 := at_top t ht
            rw [e] at hu2
            omega
          · have := two t ht u hu (Ne.symm e)
            have s1 := M.sym t.1 u.1
            have := M.tri u.1 t.1 p (by omega)
            omega
    unfold topsOf
    rw [lp]
    unfold places
    rw [List.map_map]
    have : ∀ t ∈ tops, ((fun p => (p, hv h p)) ∘ (fun t : Top => t.1)) t = t := fun t ht => by
      show (t.1, hv h t.1) = t
      rw [at_top t ht]
    exact (List.map_congr_left this).trans (List.map_id' tops)
end K8
/-! All rows, those with just these tops, their number, the least and the greatest one; tuples of tops. Plain Lean. -/
namespace K8
def rangeI (m : Int) : List Int := (List.range m.toNat).map fun i : Nat => (i : Int)
theorem mem_rangeI {m x : Int} : x ∈ rangeI m ↔ 0 ≤ x ∧ x < m := by
  unfold rangeI
  rw [List.mem_map]
  constructor
  · rintro ⟨i, hi, rfl⟩
    have := List.mem_range.mp hi
    omega
  · intro h
    exact ⟨x.toNat, List.mem_range.mpr (by omega), by omega⟩
theorem rangeI_rise (m : Int) : (rangeI m).Pairwise (· < ·) := List.pairwise_map.mpr ((range_rise _).imp fun h => by omega)
/-- strictly rising lists of ints with one membership are one -/
theorem riseI_eq : ∀ {l m : List Int}, l.Pairwise (· < ·) → m.Pairwise (· < ·) → (∀ x, x ∈ l ↔ x ∈ m) → l = m
  | [], [], _, _, _ => rfl
  | [], y :: m, _, _, h => by
    have := (h y).mpr (by simp)
    simp at this
  | x :: l, [], _, _, h => by
    have := (h x).mp (by simp)
    simp at this
  | x :: l, y :: m, hl, hm, h => by
    rw [List.pairwise_cons] at hl hm
    have exy : x = y := by
      have h1 : x ∈ y :: m := (h x).mp (by simp)
      have h2 : y ∈ x :: l := (h y).mpr (by simp)
      rcases List.mem_cons.mp h1 with e | h1
      · exact e
      · rcases List.mem_cons.mp h2 with e | h2
        · exact e.symm
        · have a := hm.1 x h1
          have b := hl.1 y h2
          omega
    subst exy
    rw [riseI_eq hl.2 hm.2 fun z => ?_]
    constructor
    · intro hz
      have a := hl.1 z hz
      rcases List.mem_cons.mp ((h z).mp (List.mem_cons_of_mem _ hz)) with e | q
      · omega
      · exact q
    · intro hz
      have a := hm.1 z hz
      rcases List.mem_cons.mp ((h z).mpr (List.mem_cons_of_mem _ hz)) with e | q
      · omega
      · exact q
/-- lists over places 0, 1, .., k - 1, the item at p one of A p, in their order -/
def prodL : Nat → (Nat → List Int) → List (List Int)
  | 0, _ => [[]]
  | k + 1, A => (prodL k A).flatMap fun r => (A k).map fun x => r ++ [x]
def rowsL (n : Nat) (m : Int) : List (List Int) := prodL n fun _ => rangeI (m + 1)
theorem prodL_len : ∀ {k : Nat} {A : Nat → List Int} {r : List Int}, r ∈ prodL k A → r.length = k
  | 0, _, r, h => by
    have : r = [] := by simpa [prodL] using h
    rw [this]
    rfl
  | k + 1, A, r, h => by
    obtain ⟨s, hs, hr⟩ := List.mem_flatMap.mp h
    obtain ⟨x, hx, rfl⟩ := List.mem_map.mp hr
    rw [List.length_append, prodL_len hs]
    rfl
theorem hv_app {r : List Int} {x : Int} {p : Nat} (h : p < r.length) : hv (r ++ [x]) p = hv r p := by
  unfold hv
  rw [List.getD_eq_getElem?_getD, List.getD_eq_getElem?_getD, List.getElem?_append_left h]
theorem hv_last (r : List Int) (x : Int) : hv (r ++ [x]) r.length = x := by
  unfold hv
  rw [List.getD_eq_getElem?_getD, List.getElem?_append_right (Nat.le_refl _), Nat.sub_self]
  rfl
theorem mem_prodL : ∀ {k : Nat} {A : Nat → List Int} {r : List Int}, r ∈ prodL k A ↔ r.length = k ∧ ∀ p, p < k → hv r p ∈ A p
  | 0, A, r => by
    constructor
    · intro h
      exact ⟨prodL_len h, fun p hp => by omega⟩
    · rintro ⟨h, _⟩
      rw [List.eq_nil_of_length_eq_zero h]
      simp [prodL]
  | k + 1, A, r => by
    constructor
    · intro h
      refine ⟨prodL_len h, fun p hp => ?_⟩
      obtain ⟨s, hs, hr⟩ := List.mem_flatMap.mp h
      obtain ⟨x, hx, rfl⟩ := List.mem_map.mp hr
      have hsl := prodL_len hs
      by_cases c : p < k
      · rw [hv_app (by omega)]
        exact (mem_prodL.mp hs).2 p c
      · have e : p = s.length := by omega
        rw [e, hv_last, hsl]
        exact hx
    · rintro ⟨hl, hA⟩
      have hne : r ≠ [] := fun z => by rw [z] at hl; simp at hl
      have e := List.dropLast_concat_getLast hne
      refine List.mem_flatMap.mpr ⟨r.dropLast, ?_, List.mem_map.mpr ⟨r.getLast hne, ?_, e⟩⟩
      · have hd : r.dropLast.length = k := by simp [hl]
        refine mem_prodL.mpr ⟨hd, fun p hp => ?_⟩
        have := hA p (by omega)
        rw [← e, hv_app (by omega)] at this
        exact this
      · have hd : r.dropLast.length = k := by simp [hl]
        have := hA k (by omega)
        rw [← e, ← hd, hv_last] at this
        rw [← hd]
        exact this
/-- a test at each place -/
theorem prodL_filter (ok : Nat → Int → Bool) (A : Nat → List Int) : ∀ k : Nat, (prodL k A).filter (fun r => (List.range k).all fun p => ok p (hv r p)) = prodL k fun p => (A p).filter (ok p)
  | 0 => by simp [prodL]
  | k + 1 => by
    have ih := prodL_filter ok A k
    show ((prodL k A).flatMap fun r => (A k).map fun x => r ++ [x]).filter _ = (prodL k fun p => (A p).filter (ok p)).flatMap fun r => ((A k).filter (ok k)).map fun x => r ++ [x]
    rw [← ih, List.filter_flatMap]
    have key : ∀ r ∈ prodL k A, ((A k).map fun x => r ++ [x]).filter (fun r => (List.range (k + 1)).all fun p => ok p (hv r p)) =
        if ((List.range k).all fun p => ok p (hv r p)) = true then ((A k).filter (ok k)).map fun x => r ++ [x] else [] := fun r hr => by
      have hl := prodL_len hr
      have step : ∀ x, ((List.range (k + 1)).all fun p => ok p (hv (r ++ [x]) p)) = (((List.range k).all fun p => ok p (hv r p)) && ok k x) := fun x => by
        rw [List.range_succ, List.all_append]
        congr 1
        · rw [Bool.eq_iff_iff, List.all_eq_true, List.all_eq_true]
          constructor
          · intro h p hp
            have := h p hp
            rw [hv_app (by have := List.mem_range.mp hp; omega)] at this
            exact this
          · intro h p hp
            rw [hv_app (by have := List.mem_range.mp hp; omega)]
            exact h p hp
        · simp only [List.all_cons, List.all_nil, Bool.and_true]
          rw [← hl, hv_last]
      rw [List.filter_map]
      have e2 : ((fun r => (List.range (k + 1)).all fun p => ok p (hv r p)) ∘ fun x => r ++ [x]) = fun x => (((List.range k).all fun p => ok p (hv r p)) && ok k x) := funext step
      rw [e2]
      by_cases c : ((List.range k).all fun p => ok p (hv r p)) = true
      · rw [if_pos c, c]
        simp
      · rw [if_neg c]
        have c' : ((List.range k).all fun p => ok p (hv r p)) = false := by simpa using c
        rw [c']
        simp
    generalize hL : prodL k A = L at key ⊢
    clear hL ih
    induction L with
    | nil => rfl
    | cons r L ih =>
      rw [List.flatMap_cons, key r (by simp), ih fun s hs => key s (by simp [hs])]
      by_cases c : ((List.range k).all fun p => ok p (hv r p)) = true
      · rw [if_pos c]
        simp only [List.filter_cons, if_pos c, List.flatMap_cons]
      · rw [if_neg c]
        simp only [List.filter_cons, if_neg c, List.nil_append]
theorem flatMap_const_len {α β : Type} (f : α → List β) (c : Nat) : ∀ l : List α, (∀ a ∈ l, (f a).length = c) → (l.flatMap f).length = l.length * c
  | [], _ => by simp
  | a :: l, h => by
    rw [List.flatMap_cons, List.length_append, h a (by simp), flatMap_const_len f c l fun b hb => h b (by simp [hb]), List.length_cons, Nat.succ_mul]
    omega
def prodN (f : Nat → Nat) : Nat → Nat
  | 0 => 1
  | k + 1 => prodN f k * f k
theorem prodL_length (A : Nat → List Int) : ∀ k, (prodL k A).length = prodN (fun p => (A p).length) k
  | 0 => rfl
  | k + 1 => by
    show ((prodL k A).flatMap fun r => (A k).map fun x => r ++ [x]).length = prodN _ k * (A k).length
    rw [flatMap_const_len _ (A k).length _ fun a _ => by simp, prodL_length A k]
theorem prodL_head (A : Nat → List Int) (f : Nat → Int) : ∀ k, (∀ p, p < k → (A p).head? = some (f p)) → (prodL k A).head? = some ((List.range k).map f)
  | 0, _ => rfl
  | k + 1, h => by
    have ih := prodL_head A f k fun p hp => h p (by omega)
    show ((prodL k A).flatMap fun r => (A k).map fun x => r ++ [x]).head? = _
    have hk := h k (by omega)
    cases e : prodL k A with
    | nil => rw [e] at ih; simp at ih
    | cons r L =>
      rw [e] at ih
      have ih : r = (List.range k).map f := by simpa using ih
      cases ea : A k with
      | nil => rw [ea] at hk; simp at hk
      | cons x l =>
        rw [ea] at hk
        have hk : x = f k := by simpa using hk
        rw [List.range_succ, List.map_append, List.flatMap_cons, List.map_cons, ih, hk]
        rfl
theorem prodL_last (A : Nat → List Int) (f : Nat → Int) : ∀ k, (∀ p, p < k → (A p).getLast? = some (f p)) → (prodL k A).getLast? = some ((List.range k).map f)
  | 0, _ => rfl
  | k + 1, h => by
    have ih := prodL_last A f k fun p hp => h p (by omega)
    show ((prodL k A).flatMap fun r => (A k).map fun x => r ++ [x]).getLast? = _
    have hk := h k (by omega)
    have hne : prodL k A ≠ [] := fun z => by rw [z] at ih; simp at ih
    have e := List.dropLast_concat_getLast hne
    have e1 : (prodL k A).getLast hne = (List.range k).map f := by
      rw [List.getLast?_eq_getLast hne] at ih
      simpa using ih
    rw [← e, List.flatMap_append, List.getLast?_append]
    have hA : A k ≠ [] := fun z => by rw [z] at hk; simp at hk
    have e2 : (A k).getLast hA = f k := by
      rw [List.getLast?_eq_getLast hA] at hk
      simpa using hk
    have e3 : ([(prodL k A).getLast hne].flatMap fun r => (A k).map fun x => r ++ [x]).getLast? = some ((List.range (k + 1)).map f) := by
      rw [List.flatMap_cons, List.flatMap_nil, List.append_nil, List.getLast?_map, List.getLast?_eq_getLast hA, e1, e2, List.range_succ, List.map_append]
      rfl
    rw [e3]
    rfl
theorem prodL_nil {A : Nat → List Int} {p k : Nat} (hp : p < k) (h : A p = []) : prodL k A = [] := by
  cases e : prodL k A with
  | nil => rfl
  | cons r L =>
    have : r ∈ prodL k A := by rw [e]; simp
    have := (mem_prodL.mp this).2 p hp
    rw [h] at this
    simp at this
/-! the rows with just these tops -/
def due (D : Tab) (n : Nat) (m : Int) (tops : List Top) : List (List Int) := (rowsL n m).filter fun h => decide (topsOf D h = tops)
def fit (D : Tab) (m : Int) (tops : List Top) (p : Nat) : List Int := (rangeI (m + 1)).filter (okAt D tops p)
theorem due_calm {n : Nat} {m : Int} {D : Tab} (M : Metric n D) {tops : List Top} (T : TopsOk n m tops) (hc : clashes D tops = []) : due D n m tops = prodL n (fit D m tops) := by
  unfold due rowsL
  show _ = prodL n fun p => (rangeI (m + 1)).filter (okAt D tops p)
  rw [← prodL_filter (okAt D tops) (fun _ => rangeI (m + 1)) n]
  refine List.filter_congr fun r hr => ?_
  have hl := prodL_len hr
  rw [Bool.eq_iff_iff, decide_eq_true_eq, tops_iff M T hl, List.all_eq_true]
  exact ⟨fun h p hp => h.2 p (List.mem_range.mp hp), fun h => ⟨hc, fun q hq => h q (List.mem_range.mpr hq)⟩⟩
theorem due_clash {n : Nat} {m : Int} {D : Tab} (M : Metric n D) {tops : List Top} (T : TopsOk n m tops) (hc : clashes D tops ≠ []) : due D n m tops = [] := by
  unfold due
  rw [List.filter_eq_nil_iff]
  intro r hr
  have hl := prodL_len hr
  simp only [decide_eq_true_eq, tops_iff M T hl]
  exact fun h => hc h.1
theorem fit_top {n : Nat} {m : Int} {D : Tab} {tops : List Top} (T : TopsOk n m tops) {t : Top} (ht : t ∈ tops) : fit D m tops t.1 = [t.2] := by
  have hb := T.at_ t ht
  refine riseI_eq ((rangeI_rise _).filter _) (by simp) fun x => ?_
  unfold fit
  rw [List.mem_filter, mem_rangeI]
  unfold okAt
  rw [told_some T.asc ht]
  simp only [decide_eq_true_eq, List.mem_singleton]
  omega
theorem fit_rest {m : Int} {D : Tab} {tops : List Top} {q : Nat} (hq : q ∉ places tops) (hm : cov D tops q ≤ m) : fit D m tops q = rangeI (cov D tops q + 1) := by
  refine riseI_eq ((rangeI_rise _).filter _) (rangeI_rise _) fun x => ?_
  unfold fit
  rw [List.mem_filter, mem_rangeI, mem_rangeI]
  unfold okAt
  rw [told_none.mpr hq]
  simp only [decide_eq_true_eq]
  omega
theorem cov_le {n : Nat} {m : Int} {D : Tab} (M : Metric n D) {tops : List Top} (T : TopsOk n m tops) (q : Nat) : cov D tops q ≤ m := by
  obtain ⟨t, ht, e⟩ := cov_at (D := D) T.ne q
  have := (T.at_ t ht).2.2
  have := M.nn t.1 q
  omega
theorem rangeI_len (m : Int) : (rangeI m).length = m.toNat := by
  unfold rangeI
  rw [List.length_map, List.length_range]
theorem rangeI_succ {m : Int} (h : 0 ≤ m) : rangeI (m + 1) = rangeI m ++ [m] := by
  unfold rangeI
  rw [show (m + 1).toNat = m.toNat + 1 by omega, List.range_succ, List.map_append]
  simp
  omega
theorem rangeI_head {c : Int} (h : 0 ≤ c) : (rangeI (c + 1)).head? = some 0 := by
  unfold rangeI
  rw [show (c + 1).toNat = c.toNat + 1 by omega, List.range_succ_eq_map]
  rfl
theorem rangeI_last {c : Int} (h : 0 ≤ c) : (rangeI (c + 1)).getLast? = some c := by
  rw [rangeI_succ h, List.getLast?_append]
  rfl
/-- the number: the covers' product over the other places, in turn -/
def mulAt (D : Tab) (tops : List Top) (acc : Int) (q : Nat) : Int := acc * (if 0 ≤ cov D tops q then cov D tops q + 1 else 0)
def count (n : Nat) (D : Tab) (tops : List Top) : Int := (rest n tops).foldl (mulAt D tops) 1
def number (n : Nat) (D : Tab) (tops : List Top) : Int := if clashes D tops = [] then count n D tops else 0
theorem rest_succ (k : Nat) (tops : List Top) : rest (k + 1) tops = rest k tops ++ (if k ∈ places tops then [] else [k]) := by
  unfold rest
  rw [List.range_succ, List.filter_append]
  congr 1
  by_cases c : k ∈ places tops
  · simp [c]
  · simp [c]
theorem count_len {n : Nat} {m : Int} {D : Tab} (M : Metric n D) {tops : List Top} (T : TopsOk n m tops) : ∀ k, count k D tops = (prodN (fun p => (fit D m tops p).length) k : Int)
  | 0 => by simp [count, rest, prodN]
  | k + 1 => by
    have ih := count_len M T k
    unfold count at ih ⊢
    rw [rest_succ, List.foldl_append, ih]
    show _ = ((prodN (fun p => (fit D m tops p).length) k * (fit D m tops k).length : Nat) : Int)
    by_cases c : k ∈ places tops
    · obtain ⟨t, ht, rfl⟩ := List.mem_map.mp c
      rw [if_pos c, fit_top T ht]
      simp
    · rw [if_neg c, fit_rest c (cov_le M T k), rangeI_len]
      show mulAt D tops _ k = _
      unfold mulAt
      by_cases d : 0 ≤ cov D tops k
      · rw [if_pos d, Int.natCast_mul]
        congr 1
        omega
      · rw [if_neg d, show (cov D tops k + 1).toNat = 0 by omega]
        simp
theorem number_due {n : Nat} {m : Int} {D : Tab} (M : Metric n D) {tops : List Top} (T : TopsOk n m tops) : number n D tops = ((due D n m tops).length : Int) := by
  unfold number
  by_cases c : clashes D tops = []
  · rw [if_pos c, due_calm M T c, prodL_length, count_len M T]
  · rw [if_neg c, due_clash M T c]
    rfl
/-! the least and the greatest one -/
def allHid (n : Nat) (D : Tab) (tops : List Top) : Prop := ∀ q ∈ rest n tops, 0 ≤ cov D tops q
instance (n : Nat) (D : Tab) (tops : List Top) : Decidable (allHid n D tops) := by
  unfold allHid
  infer_instance
def rowAt (D : Tab) (tops : List Top) (e : Int) (p : Nat) : Int := match told tops p with
  | some y => y
  | none => cov D tops p * e
def rowW (n : Nat) (D : Tab) (tops : List Top) (e : Int) : Option (List Int) := if clashes D tops = [] ∧ allHid n D tops then some ((List.range n).map (rowAt D tops e)) else none
theorem mem_rest {n : Nat} {tops : List Top} {q : Nat} : q ∈ rest n tops ↔ q < n ∧ q ∉ places tops := by
  unfold rest
  rw [List.mem_filter, List.mem_range]
  simp
theorem due_none {n : Nat} {m : Int} {D : Tab} (M : Metric n D) {tops : List Top} (T : TopsOk n m tops) (h : ¬ (clashes D tops = [] ∧ allHid n D tops)) : due D n m tops = [] := by
  by_cases c : clashes D tops = []
  · rw [due_calm M T c]
    have : ∃ q ∈ rest n tops, cov D tops q < 0 := by
      apply Classical.byContradiction
      intro k
      refine h ⟨c, fun q hq => ?_⟩
      apply Classical.byContradiction
      intro z
      exact k ⟨q, hq, by omega⟩
    obtain ⟨q, hq, hc⟩ := this
    obtain ⟨h1, h2⟩ := mem_rest.mp hq
    refine prodL_nil h1 ?_
    rw [fit_rest h2 (cov_le M T q)]
    unfold rangeI
    rw [show (cov D tops q + 1).toNat = 0 by omega]
    rfl
  · exact due_clash M T c
theorem fit_ends {n : Nat} {m : Int} {D : Tab} (M : Metric n D) {tops : List Top} (T : TopsOk n m tops) (h : allHid n D tops) (p : Nat) (hp : p < n) : (fit D m tops p).head? = some (rowAt D tops 0 p) ∧ (fit D m tops p).getLast? = some (rowAt D tops 1 p) := by
  unfold rowAt
  cases c : told tops p with
  | some y =>
    have := fit_top (D := D) T (told_mem c)
    simp only at this
    rw [this]
    exact ⟨rfl, rfl⟩
  | none =>
    have c' := told_none.mp c
    have := h p (mem_rest.mpr ⟨hp, c'⟩)
    rw [fit_rest c' (cov_le M T p), rangeI_head this, rangeI_last this]
    simp
theorem row_least {n : Nat} {m : Int} {D : Tab} (M : Metric n D) {tops : List Top} (T : TopsOk n m tops) : (due D n m tops).head? = rowW n D tops 0 := by
  unfold rowW
  by_cases c : clashes D tops = [] ∧ allHid n D tops
  · rw [if_pos c, due_calm M T c.1]
    exact prodL_head _ _ n fun p hp => (fit_ends M T c.2 p hp).1
  · rw [if_neg c, due_none M T c]
    rfl
theorem row_greatest {n : Nat} {m : Int} {D : Tab} (M : Metric n D) {tops : List Top} (T : TopsOk n m tops) : (due D n m tops).getLast? = rowW n D tops 1 := by
  unfold rowW
  by_cases c : clashes D tops = [] ∧ allHid n D tops
  · rw [if_pos c, due_calm M T c.1]
    exact prodL_last _ _ n fun p hp => (fit_ends M T c.2 p hp).2
  · rw [if_neg c, due_none M T c]
    rfl
end K8
/-! lifted, settled, the number of lists of tops. Plain Lean. -/
namespace K8
/-! lifted -/
def need (D : Tab) (tops : List Top) (q : Nat) : Int := lmin (tops.map fun t => D t.1 q - t.2)
def lifts (n : Nat) (D : Tab) (tops : List Top) : Int := lmax (0 :: (rest n tops).map (need D tops))
def lift (n : Nat) (D : Tab) (tops : List Top) : Option Int := if clashes D tops = [] then some (lifts n D tops) else none
theorem need_cov {D : Tab} {tops : List Top} (h : tops ≠ []) (q : Nat) : need D tops q = - cov D tops q := by
  refine lmin_eq ?_ fun x hx => ?_
  · obtain ⟨t, ht, e⟩ := cov_at (D := D) h q
    refine List.mem_map.mpr ⟨t, ht, ?_⟩
    omega
  · obtain ⟨t, ht, rfl⟩ := List.mem_map.mp hx
    have := le_cov (D := D) ht q
    omega
def raised (tops : List Top) (more : Int) : List Top := tops.map fun t => (t.1, t.2 + more)
theorem cov_raised {D : Tab} {tops : List Top} (h : tops ≠ []) (more : Int) (q : Nat) : cov D (raised tops more) q = cov D tops q + more := by
  refine lmax_eq ?_ fun x hx => ?_
  · obtain ⟨t, ht, e⟩ := cov_at (D := D) h q
    refine List.mem_map.mpr ⟨(t.1, t.2 + more), List.mem_map.mpr ⟨t, ht, rfl⟩, ?_⟩
    simp only
    omega
  · obtain ⟨u, hu, rfl⟩ := List.mem_map.mp hx
    obtain ⟨t, ht, rfl⟩ := List.mem_map.mp hu
    have := le_cov (D := D) ht q
    simp only
    omega
def left (n : Nat) (D : Tab) (tops : List Top) (more : Int) : List Nat := (rest n tops).filter fun q => decide (cov D (raised tops more) q < 0)
theorem left_nil {n : Nat} {D : Tab} {tops : List Top} (h : tops ≠ []) {more : Int} (h0 : 0 ≤ more) : left n D tops more = [] ↔ lifts n D tops ≤ more := by
  unfold left
  rw [List.filter_eq_nil_iff]
  constructor
  · intro k
    unfold lifts
    rcases List.mem_cons.mp (lmax_mem (l := 0 :: (rest n tops).map (need D tops)) (by simp)) with e | hm
    · omega
    · obtain ⟨q, hq, e⟩ := List.mem_map.mp hm
      have := k q hq
      rw [cov_raised h] at this
      simp only [decide_eq_true_eq] at this
      rw [need_cov h] at e
      omega
  · intro k q hq
    rw [cov_raised h]
    have := le_lmax (l := 0 :: (rest n tops).map (need D tops)) (x := need D tops q) (List.mem_cons_of_mem _ (List.mem_map.mpr ⟨q, hq, rfl⟩))
    rw [need_cov h] at this
    unfold lifts at k
    simp only [decide_eq_true_eq]
    omega
/-- the law's search, behind its first k turns -/
def liftTo (n : Nat) (D : Tab) (tops : List Top) : Nat → Option Int
  | 0 => none
  | k + 1 => if liftTo n D tops k = none ∧ left n D tops k = [] ∧ clashes D tops = [] then some k else liftTo n D tops k
theorem lifts_bound {n : Nat} {m : Int} {D : Tab} (M : Metric n D) {tops : List Top} (T : TopsOk n m tops) : 0 ≤ lifts n D tops ∧ lifts n D tops ≤ 24 := by
  refine ⟨le_lmax (by simp), ?_⟩
  unfold lifts
  rcases List.mem_cons.mp (lmax_mem (l := 0 :: (rest n tops).map (need D tops)) (by simp)) with e | hm
  · omega
  · obtain ⟨q, hq, e⟩ := List.mem_map.mp hm
    obtain ⟨t, r, et⟩ := List.exists_cons_of_ne_nil T.ne
    have h1 : need D tops q ≤ D t.1 q - t.2 := lmin_le (List.mem_map.mpr ⟨t, by rw [et]; simp, rfl⟩)
    have h2 := T.at_ t (by rw [et]; simp)
    have h3 := M.top t.1 q h2.1 (mem_rest.mp hq).1
    omega
theorem liftTo_eq {n : Nat} {m : Int} {D : Tab} (M : Metric n D) {tops : List Top} (T : TopsOk n m tops) : liftTo n D tops 40 = lift n D tops := by
  have hb := lifts_bound M T
  unfold lift
  by_cases c : clashes D tops = []
  · rw [if_pos c]
    have key : ∀ k : Nat, liftTo n D tops k = if lifts n D tops < k then some (lifts n D tops) else none := by
      intro k
      induction k with
      | zero =>
        rw [if_neg (by omega)]
        rfl
      | succ k ih =>
        show (if liftTo n D tops k = none ∧ left n D tops k = [] ∧ clashes D tops = [] then some (k : Int) else liftTo n D tops k) = _
        simp only [left_nil (D := D) (n := n) T.ne (Int.natCast_nonneg k), ih]
        by_cases c1 : lifts n D tops < k
        · rw [if_pos c1, if_pos (show lifts n D tops < ((k + 1 : Nat) : Int) by omega)]
          simp
        · rw [if_neg c1]
          by_cases c2 : lifts n D tops = k
          · rw [if_pos ⟨rfl, by omega, c⟩, if_pos (by omega), c2]
          · rw [if_neg (by omega), if_neg (by omega)]
    rw [key, if_pos (by omega)]
  · rw [if_neg c]
    have key : ∀ k : Nat, liftTo n D tops k = none := by
      intro k
      induction k with
      | zero => rfl
      | succ k ih =>
        show (if liftTo n D tops k = none ∧ left n D tops k = [] ∧ clashes D tops = [] then some (k : Int) else liftTo n D tops k) = _
        rw [if_neg (fun h => c h.2.2), ih]
    exact key 40
/-! settled -/
def overT (D : Tab) (tops : List Top) (t : Top) : List Top := tops.filter fun u => decide (u.1 ≠ t.1) && decide (t.2 ≤ u.2 - D u.1 t.1)
def kept (D : Tab) (tops : List Top) : List Top := tops.filter fun t => decide (overT D tops t = [])
theorem overT_any (D : Tab) (tops : List Top) (t : Top) : decide (overT D tops t = []) = !(tops.any fun u => decide (u.1 ≠ t.1) && decide (t.2 ≤ u.2 - D u.1 t.1)) := by
  unfold overT
  induction tops with
  | nil => rfl
  | cons u r ih =>
    rw [List.any_cons, List.filter_cons]
    cases h : (decide (u.1 ≠ t.1) && decide (t.2 ≤ u.2 - D u.1 t.1)) with
    | true => simp
    | false =>
      rw [if_neg (by simp), ih]
      simp
/-! lists of tops -/
def compat (D : Tab) (row : List Top) (k : Nat) (h : Int) : Bool := row.all fun t => decide (absI (h - t.2) < D t.1 k)
def addAt (D : Tab) (m : Int) (k : Nat) (row : List Top) : List (List Top) := ((rangeI (m + 1)).filter (compat D row k)).map fun h => row ++ [(k, h)]
def tl (D : Tab) (m : Int) : Nat → List (List Top)
  | 0 => [[]]
  | k + 1 => tl D m k ++ (tl D m k).flatMap (addAt D m k)
def goodT (n : Nat) (D : Tab) (row : List Top) : Bool := decide (row ≠ []) && decide (allHid n D row)
def nLists (n : Nat) (D : Tab) (m : Int) : Nat := ((tl D m n).filter (goodT n D)).length
theorem compat_iff {D : Tab} {row : List Top} {k : Nat} {h : Int} : compat D row k h = true ↔ ∀ t ∈ row, touch D t (k, h) = false := by
  unfold compat touch
  rw [List.all_eq_true]
  simp only [decide_eq_true_eq, decide_eq_false_iff_not, Int.not_le]
  exact ⟨fun a t ht => by rw [absI_comm]; exact a t ht, fun a t ht => by rw [absI_comm]; exact a t ht⟩
theorem mem_tl {D : Tab} {m : Int} : ∀ {k : Nat} {row : List Top}, row ∈ tl D m k ↔ row.Pairwise (fun t u => t.1 < u.1) ∧ (∀ t ∈ row, t.1 < k ∧ 0 ≤ t.2 ∧ t.2 ≤ m) ∧ row.Pairwise (fun t u => touch D t u = false)
  | 0, row => by
    constructor
    · intro h
      have : row = [] := by simpa [tl] using h
      subst this
      simp
    · rintro ⟨_, h, _⟩
      cases row with
      | nil => simp [tl]
      | cons t r =>
        have := (h t (by simp)).1
        omega
  | k + 1, row => by
    show row ∈ tl D m k ++ (tl D m k).flatMap (addAt D m k) ↔ _
    rw [List.mem_append, mem_tl (k := k)]
    constructor
    · rintro (⟨h1, h2, h3⟩ | h)
      · exact ⟨h1, fun t ht => by have := h2 t ht; omega, h3⟩
      · obtain ⟨r, hr, hx⟩ := List.mem_flatMap.mp h
        obtain ⟨h1, h2, h3⟩ := mem_tl.mp hr
        obtain ⟨x, hy, rfl⟩ := List.mem_map.mp hx
        obtain ⟨hx1, hx2⟩ := List.mem_filter.mp hy
        have hx1 := mem_rangeI.mp hx1
        have hx2 := compat_iff.mp hx2
        refine ⟨?_, fun t ht => ?_, ?_⟩
        · rw [List.pairwise_append]
          refine ⟨h1, by simp, fun a ha b hb => ?_⟩
          have : b = (k, x) := by simpa using hb
          rw [this]
          exact (h2 a ha).1
        · rcases List.mem_append.mp ht with ht | ht
          · have := h2 t ht
            omega
          · have : t = (k, x) := by simpa using ht
            rw [this]
            simp only
            omega
        · rw [List.pairwise_append]
          refine ⟨h3, by simp, fun a ha b hb => ?_⟩
          have : b = (k, x) := by simpa using hb
          rw [this]
          exact hx2 a ha
    · rintro ⟨h1, h2, h3⟩
      by_cases hne : row = []
      · subst hne
        exact .inl ⟨h1, by simp, h3⟩
      · have e := List.dropLast_concat_getLast hne
        generalize row.dropLast = r at e
        generalize row.getLast hne = t at e
        subst e
        rw [List.pairwise_append] at h1 h3
        by_cases c : t.1 = k
        · right
          refine List.mem_flatMap.mpr ⟨r, mem_tl.mpr ⟨h1.1, fun u hu => ?_, h3.1⟩, List.mem_map.mpr ⟨t.2, List.mem_filter.mpr ⟨mem_rangeI.mpr ?_, compat_iff.mpr fun u hu => ?_⟩, ?_⟩⟩
          · have a := h1.2.2 u hu t (by simp)
            have b := h2 u (by simp [hu])
            omega
          · have b := h2 t (by simp)
            omega
          · rw [← c]
            exact h3.2.2 u hu t (by simp)
          · rw [← c]
        · left
          refine ⟨List.pairwise_append.mpr h1, fun u hu => ?_, List.pairwise_append.mpr h3⟩
          have b := h2 u hu
          have bt := h2 t (by simp)
          rcases List.mem_append.mp hu with hu | hu
          · have := h1.2.2 u hu t (by simp)
            omega
          · have : u = t := by simpa using hu
            subst this
            omega
theorem tl_nodup (D : Tab) (m : Int) : ∀ k, (tl D m k).Nodup
  | 0 => by simp [tl]
  | k + 1 => by
    show (tl D m k ++ (tl D m k).flatMap (addAt D m k)).Nodup
    have ih := tl_nodup D m k
    rw [List.nodup_append]
    refine ⟨ih, ?_, fun a ha b hb e => ?_⟩
    · have hp : ∀ L : List (List Top), L.Nodup → (L.flatMap (addAt D m k)).Nodup := by
        intro L
        induction L with
        | nil => intro _; simp
        | cons r L ihL =>
          intro hn
          rw [List.nodup_cons] at hn
          rw [List.flatMap_cons, List.nodup_append]
          refine ⟨?_, ihL hn.2, fun a ha b hb e => ?_⟩
          · unfold addAt
            refine List.Pairwise.map _ (fun x y h z => ?_) (((rangeI_rise (m + 1)).filter (compat D r k)).imp fun {x y} h => (Int.ne_of_lt h : x ≠ y))
            have := List.append_cancel_left z
            injection this with z1 z2
            injection z1 with z3 z4
            exact h z4
          · obtain ⟨x, _, rfl⟩ := List.mem_map.mp ha
            obtain ⟨s, hs, hb⟩ := List.mem_flatMap.mp hb
            obtain ⟨y, _, rfl⟩ := List.mem_map.mp hb
            have := (List.append_inj' e rfl).1
            exact hn.1 (by rw [this]; exact hs)
      exact hp _ ih
    · obtain ⟨s, hs, hb⟩ := List.mem_flatMap.mp hb
      obtain ⟨y, _, rfl⟩ := List.mem_map.mp hb
      subst e
      have := (mem_tl.mp ha).2.1 (k, y) (by simp)
      simp only at this
      omega
theorem flatMap_le {α β : Type} (f : α → List β) (c : Nat) : ∀ l : List α, (∀ a ∈ l, (f a).length ≤ c) → (l.flatMap f).length ≤ l.length * c
  | [], _ => by simp
  | a :: l, h => by
    have h1 := h a (by simp)
    have h2 := flatMap_le f c l fun b hb => h b (by simp [hb])
    rw [List.flatMap_cons, List.length_append, List.length_cons, Nat.succ_mul]
    omega
theorem addAt_len (D : Tab) {m : Int} (hm : m ≤ 5) (k : Nat) (row : List Top) : (addAt D m k row).length ≤ 6 := by
  unfold addAt
  rw [List.length_map]
  have := List.length_filter_le (compat D row k) (rangeI (m + 1))
  rw [rangeI_len] at this
  omega
theorem tl_len (D : Tab) {m : Int} (hm : m ≤ 5) : ∀ k, (tl D m k).length ≤ 7 ^ k
  | 0 => by simp [tl]
  | k + 1 => by
    have ih := tl_len D hm k
    show (tl D m k ++ (tl D m k).flatMap (addAt D m k)).length ≤ 7 ^ (k + 1)
    have := flatMap_le (addAt D m k) 6 (tl D m k) fun a _ => addAt_len D hm k a
    rw [List.length_append, Nat.pow_succ]
    omega
/-- what some row has as its tops -/
theorem tops_some {n : Nat} {m : Int} {D : Tab} (M : Metric n D) (hn : 1 ≤ n) {row : List Top} : (row ∈ tl D m n ∧ goodT n D row = true) ↔ ∃ h ∈ rowsL n m, topsOf D h = row := by
  unfold goodT
  rw [mem_tl, Bool.and_eq_true, decide_eq_true_eq, decide_eq_true_eq]
  constructor
  · rintro ⟨⟨h1, h2, h3⟩, h4, h5⟩
    have T : TopsOk n m row := ⟨h4, h1, h2⟩
    have hc := clashes_nil.mpr h3
    have := row_least M T
    unfold rowW at this
    rw [if_pos ⟨hc, h5⟩] at this
    have hm := List.mem_of_head? this
    unfold due at hm
    rw [List.mem_filter, decide_eq_true_eq] at hm
    exact ⟨_, hm⟩
  · rintro ⟨h, hh, rfl⟩
    have hl := prodL_len hh
    have hb : ∀ p, p < n → 0 ≤ hv h p ∧ hv h p ≤ m := fun p hp => by
      have := mem_rangeI.mp ((mem_prodL.mp hh).2 p hp)
      omega
    have T := topsOf_ok M hl hn hb
    have hc := topsOf_calm M hl
    refine ⟨⟨T.asc, T.at_, clashes_nil.mp hc⟩, T.ne, ?_⟩
    intro q hq
    obtain ⟨hq1, hq2⟩ := mem_rest.mp hq
    obtain ⟨p, hp, hpq⟩ := lit_over M hl hq1
    have := le_cov (D := D) (show (p, hv h p) ∈ topsOf D h from List.mem_map.mpr ⟨p, hp, rfl⟩) q
    have := (hb q hq1).1
    simp only at *
    omega
/-! the keys of a dict, in turn -/
section
variable {α : Type} [DecidableEq α]
def addKey (acc : List α) (x : α) : List α := if x ∈ acc then acc else acc ++ [x]
def keysOf (l : List α) : List α := l.foldl addKey []
theorem keys_fold : ∀ (l acc : List α), acc.Nodup → (l.foldl addKey acc).Nodup ∧ ∀ x, x ∈ l.foldl addKey acc ↔ x ∈ acc ∨ x ∈ l
  | [], acc, h => ⟨h, fun x => by simp⟩
  | a :: l, acc, h => by
    have h2 : (addKey acc a).Nodup ∧ ∀ x, x ∈ addKey acc a ↔ x ∈ acc ∨ x = a := by
      unfold addKey
      by_cases c : a ∈ acc
      · rw [if_pos c]
        refine ⟨h, fun x => ⟨.inl, ?_⟩⟩
        rintro (z | rfl)
        · exact z
        · exact c
      · rw [if_neg c]
        refine ⟨?_, fun x => by simp⟩
        rw [List.nodup_append]
        refine ⟨h, by simp, fun x hx y hy e => ?_⟩
        have : y = a := by simpa using hy
        subst e this
        exact c hx
    obtain ⟨q1, q2⟩ := keys_fold l (addKey acc a) h2.1
    refine ⟨q1, fun x => ?_⟩
    rw [List.foldl_cons, q2, h2.2, List.mem_cons]
    constructor
    · rintro ((z | z) | z)
      · exact .inl z
      · exact .inr (.inl z)
      · exact .inr (.inr z)
    · rintro (z | z | z)
      · exact .inl (.inl z)
      · exact .inl (.inr z)
      · exact .inr z
theorem keysOf_nodup (l : List α) : (keysOf l).Nodup := (keys_fold l [] (by simp)).1
theorem mem_keysOf {l : List α} {x : α} : x ∈ keysOf l ↔ x ∈ l := by
  have := (keys_fold l [] (by simp)).2 x
  unfold keysOf
  simpa using this
theorem keysOf_snoc (l : List α) (x : α) : keysOf (l ++ [x]) = addKey (keysOf l) x := by
  unfold keysOf
  rw [List.foldl_append]
  rfl
theorem keysOf_len (l : List α) : (keysOf l).length ≤ l.length := by
  have key : ∀ (l acc : List α), (l.foldl addKey acc).length ≤ acc.length + l.length := by
    intro l
    induction l with
    | nil => intro acc; simp
    | cons a l ih =>
      intro acc
      have h1 := ih (addKey acc a)
      have h2 : (addKey acc a).length ≤ acc.length + 1 := by
        unfold addKey
        split <;> simp
      rw [List.foldl_cons, List.length_cons]
      omega
  have := key l []
  unfold keysOf
  simpa using this
end
theorem lists_eq {n : Nat} {m : Int} {D : Tab} (M : Metric n D) (hn : 1 ≤ n) : nLists n D m = (keysOf ((rowsL n m).map (topsOf D))).length := by
  unfold nLists
  refine List.Perm.length_eq ((List.perm_ext_iff_of_nodup ((tl_nodup D m n).filter _) (keysOf_nodup _)).mpr fun row => ?_)
  rw [List.mem_filter, tops_some M hn, mem_keysOf, List.mem_map]
end K8
/-! Words for the walk: data that lies in the heap, comprehensions over anything, targets that are tuples. -/
namespace K8
open PySem PySem.Spec PyProof.Rows L2 Evl
/-! data -/
def PairP (H : Hp) (t : Top) (v : V) : Prop := ∃ p, v = .ref p ∧ H p = some (.tup [.int (t.1 : Nat), .int t.2])
def RodP (H : Hp) (r : Rod) (v : V) : Prop := ∃ p, v = .ref p ∧ H p = some (.tup [.int (r.1 : Nat), .int (r.2.1 : Nat), .int r.2.2])
def IntsT (H : Hp) (l : List Int) (v : V) : Prop := ∃ p, v = .ref p ∧ H p = some (.tup (l.map V.int))
def IntsL (H : Hp) (l : List Int) (v : V) : Prop := ∃ p, v = .ref p ∧ H p = some (.lst (l.map V.int))
def TupOf {α : Type} (P : Hp → α → V → Prop) (H : Hp) (l : List α) (v : V) : Prop := ∃ p vs, v = .ref p ∧ H p = some (.tup vs) ∧ Paired (P H) l vs
def LstOf {α : Type} (P : Hp → α → V → Prop) (H : Hp) (l : List α) (v : V) : Prop := ∃ p vs, v = .ref p ∧ H p = some (.lst vs) ∧ Paired (P H) l vs
/-- tops in a tuple that may be known as it lies -/
def TopsP (H : Hp) (l : List Top) (v : V) : Prop := ∃ p vs, v = .ref p ∧ Rd H p (.tup vs) ∧ Paired (PairP H) l vs
def NetP (H : Hp) (n : Nat) (rods : List Rod) (v : V) : Prop := ∃ p w, v = .ref p ∧ H p = some (.tup [.int (n : Nat), w]) ∧ TupOf RodP H rods w
def rowV (n : Nat) (f : Nat → Int) : List V := (List.range n).map fun j => V.int (f j)
def TabP (n : Nat) (H : Hp) (D : Tab) (v : V) : Prop := ∃ p vs, v = .ref p ∧ H p = some (.lst vs) ∧ vs.length = n ∧ ∀ i, i < n → ∃ q, vs[i]? = some (.ref q) ∧ H q = some (.lst (rowV n (D i)))
def OptP {α : Type} (P : Hp → α → V → Prop) (H : Hp) (o : Option α) (v : V) : Prop := match o with
  | none => v = .non
  | some a => P H a v
def IntP (_ : Hp) (x : Int) (v : V) : Prop := v = .int x
section
variable {H H' : Hp} {v : V}
theorem PairP.mono {t : Top} (e : Ex H H') : PairP H t v → PairP H' t v := fun ⟨p, a, b⟩ => ⟨p, a, e _ _ b⟩
theorem RodP.mono {t : Rod} (e : Ex H H') : RodP H t v → RodP H' t v := fun ⟨p, a, b⟩ => ⟨p, a, e _ _ b⟩
theorem IntsT.mono {l : List Int} (e : Ex H H') : IntsT H l v → IntsT H' l v := fun ⟨p, a, b⟩ => ⟨p, a, e _ _ b⟩
theorem IntsL.mono {l : List Int} (e : Ex H H') : IntsL H l v → IntsL H' l v := fun ⟨p, a, b⟩ => ⟨p, a, e _ _ b⟩
theorem pr_mono {α β : Type} {F G : α → β → Prop} (h : ∀ a b, F a b → G a b) : ∀ {l : List α} {m : List β}, Paired F l m → Paired G l m
  | _, _, .nil => .nil
  | _, _, .cons a t => .cons (h _ _ a) (pr_mono h t)
theorem TupOf.mono {α : Type} {P : Hp → α → V → Prop} {l : List α} (hP : ∀ a v, P H a v → P H' a v) (e : Ex H H') : TupOf P H l v → TupOf P H' l v := fun ⟨p, vs, a, b, c⟩ => ⟨p, vs, a, e _ _ b, pr_mono hP c⟩
theorem LstOf.mono {α : Type} {P : Hp → α → V → Prop} {l : List α} (hP : ∀ a v, P H a v → P H' a v) (e : Ex H H') : LstOf P H l v → LstOf P H' l v := fun ⟨p, vs, a, b, c⟩ => ⟨p, vs, a, e _ _ b, pr_mono hP c⟩
theorem tops_mono {l : List Top} (e : Ex H H') : TupOf PairP H l v → TupOf PairP H' l v := TupOf.mono (fun _ _ => PairP.mono e) e
theorem TopsP.mono {l : List Top} (e : Ex H H') : TopsP H l v → TopsP H' l v := fun ⟨p, vs, a, b, c⟩ => ⟨p, vs, a, ex_rd e b, pr_mono (fun _ _ => PairP.mono e) c⟩
theorem NetP.mono {n : Nat} {rods : List Rod} (e : Ex H H') : NetP H n rods v → NetP H' n rods v := fun ⟨p, w, a, b, c⟩ => ⟨p, w, a, e _ _ b, c.mono (fun _ _ => RodP.mono e) e⟩
theorem TabP.mono {n : Nat} {D : Tab} (e : Ex H H') : TabP n H D v → TabP n H' D v := fun ⟨p, vs, a, b, c, d⟩ => ⟨p, vs, a, e _ _ b, c, fun i hi => let ⟨q, x, y⟩ := d i hi; ⟨q, x, e _ _ y⟩⟩
theorem TabP.congr {n : Nat} {D E : Tab} (h : ∀ i j, i < n → j < n → D i j = E i j) : TabP n H D v → TabP n H E v := fun ⟨p, vs, a, b, c, d⟩ => ⟨p, vs, a, b, c, fun i hi => by
  obtain ⟨q, x, y⟩ := d i hi
  refine ⟨q, x, ?_⟩
  rw [y]
  unfold rowV
  rw [List.map_congr_left fun j hj => by rw [h i j hi (List.mem_range.mp hj)]]⟩
end
theorem pr_len {α β : Type} {F : α → β → Prop} : ∀ {l : List α} {m : List β}, Paired F l m → l.length = m.length
  | _, _, .nil => rfl
  | _, _, .cons _ t => congrArg (· + 1) (pr_len t)
theorem pr_get {α β : Type} {F : α → β → Prop} : ∀ {l : List α} {m : List β}, Paired F l m → ∀ {i : Nat} {b : β}, m[i]? = some b → ∃ a, l[i]? = some a ∧ F a b
  | _, _, .nil, i, b, h => by simp at h
  | _, _, .cons f t, 0, b, h => by
    simp only [List.getElem?_cons_zero, Option.some.injEq] at h
    subst h
    exact ⟨_, rfl, f⟩
  | _, _, .cons f t, i + 1, b, h => pr_get t (by simpa using h)
theorem pr_at {α β : Type} {F : α → β → Prop} : ∀ {l : List α} {m : List β}, Paired F l m → ∀ {i : Nat} {a : α}, l[i]? = some a → ∃ b, m[i]? = some b ∧ F a b
  | _, _, .nil, i, b, h => by simp at h
  | _, _, .cons f t, 0, b, h => by
    simp only [List.getElem?_cons_zero, Option.some.injEq] at h
    subst h
    exact ⟨_, rfl, f⟩
  | _, _, .cons f t, i + 1, b, h => pr_at t (by simpa using h)
theorem pr_map {α β γ : Type} {F : α → β → Prop} {G : γ → β → Prop} (g : α → γ) (h : ∀ a b, F a b → G (g a) b) : ∀ {l : List α} {m : List β}, Paired F l m → Paired G (l.map g) m
  | _, _, .nil => .nil
  | _, _, .cons f t => .cons (h _ _ f) (pr_map g h t)
theorem pr_eq {α β : Type} (g : α → β) : ∀ {l : List α} {m : List β}, Paired (fun a b => b = g a) l m → m = l.map g
  | _, _, .nil => rfl
  | _, _, .cons f t => by
    rw [List.map_cons, ← pr_eq g t, ← f]
theorem pr_of_map {α β γ : Type} {G : γ → β → Prop} (g : α → γ) : ∀ {l : List α} {m : List β}, Paired G (l.map g) m → Paired (fun a b => G (g a) b) l m
  | [], _, h => by
    cases h
    exact .nil
  | a :: l, _, h => by
    cases h with
    | cons f t => exact .cons f (pr_of_map g t)
theorem pr_drop {α β : Type} {F : α → β → Prop} : ∀ (k : Nat) {l : List α} {m : List β}, Paired F l m → Paired F (l.drop k) (m.drop k)
  | 0, _, _, h => h
  | k + 1, _, _, .nil => .nil
  | k + 1, _, _, .cons _ t => pr_drop k t
theorem pr_take {α β : Type} {F : α → β → Prop} : ∀ (k : Nat) {l : List α} {m : List β}, Paired F l m → Paired F (l.take k) (m.take k)
  | 0, _, _, h => .nil
  | k + 1, _, _, .nil => .nil
  | k + 1, _, _, .cons f t => .cons f (pr_take k t)
theorem pr_snoc {α β : Type} {F : α → β → Prop} {a : α} {b : β} : ∀ {l : List α} {m : List β}, Paired F l m → F a b → Paired F (l ++ [a]) (m ++ [b])
  | _, _, .nil, h => .cons h .nil
  | _, _, .cons f t, h => .cons f (pr_snoc t h)
theorem pr_app {α β : Type} {F : α → β → Prop} {l2 : List α} {m2 : List β} (h2 : Paired F l2 m2) : ∀ {l : List α} {m : List β}, Paired F l m → Paired F (l ++ l2) (m ++ m2)
  | _, _, .nil => h2
  | _, _, .cons f t => .cons f (pr_app h2 t)
/-! new objects -/
def EvN (te : TE) (σ : L2.St) (H : Hp) (o : HO) : Prop := ∀ H1, Ex H H1 → ∀ Q : VK, (∀ p H2, H1 p = none → Ex H1 H2 → H2 p = some o → Q (.ref p) H2) → te σ H1 Q
def NewO (H H2 : Hp) (o : HO) (y : V) : Prop := ∃ q, y = .ref q ∧ H q = none ∧ H2 q = some o
/-- a new list of new objects -/
def EvLs (te : TE) (σ : L2.St) (H : Hp) (os : List HO) : Prop := ∀ H1, Ex H H1 → ∀ Q : VK, (∀ p ys H2, H1 p = none → Ex H1 H2 → H2 p = some (.lst ys) → Paired (NewO H1 H2) os ys → Q (.ref p) H2) → te σ H1 Q
/-- a value of which something holds -/
def EvP (te : TE) (σ : L2.St) (H : Hp) (P : Hp → V → Prop) : Prop := ∀ H1, Ex H H1 → ∀ Q : VK, (∀ v H2, Ex H1 H2 → P H2 v → Q v H2) → te σ H1 Q
section
variable {σ : L2.St} {H H' : Hp} {ta tb te tc : TE} {t u : TT} {x y z v : V}
theorem evN_of_L {xs : List V} (h : EvL te σ H xs) : EvN te σ H (.lst xs) := h
theorem evN_of_U {xs : List V} (h : EvU te σ H xs) : EvN te σ H (.tup xs) := h
theorem EvN.mono {o : HO} (e : Ex H H') (h : EvN te σ H o) : EvN te σ H' o := fun H1 a Q q => h H1 (e.trans a) Q q
theorem EvLs.mono {o : List HO} (e : Ex H H') (h : EvLs te σ H o) : EvLs te σ H' o := fun H1 a Q q => h H1 (e.trans a) Q q
theorem EvP.mono {P : Hp → V → Prop} (e : Ex H H') (h : EvP te σ H P) : EvP te σ H' P := fun H1 a Q q => h H1 (e.trans a) Q q
theorem EvP.imp {P P' : Hp → V → Prop} (h : EvP te σ H P) (k : ∀ H1 v, Ex H H1 → P H1 v → P' H1 v) : EvP te σ H P' := fun H1 a Q q => h H1 a Q fun v H2 e p => q v H2 e (k H2 v (a.trans e) p)
theorem evp_of (h : Ev te σ H v) : EvP te σ H fun _ x => x = v := fun H1 a Q q => h H1 a Q fun H2 e => q v H2 e rfl
theorem evp_N {o : HO} (h : EvN te σ H o) : EvP te σ H fun H2 x => ∃ p, x = .ref p ∧ H p = none ∧ H2 p = some o := fun H1 a Q q => h H1 a Q fun p H2 hp e hq => q _ H2 e ⟨p, rfl, fresh_back a hp, hq⟩
theorem evp_if {b : Bool} {P : Hp → V → Prop} (h : EvT t σ H b) (h1 : b = true → EvP ta σ H P) (h2 : b = false → EvP tb σ H P) : EvP (tIf t ta tb) σ H P := fun H1 e Q q => h H1 e _ fun H2 e2 => by
  cases b with
  | true => exact h1 rfl H2 (e.trans e2) Q fun v H3 e3 p => q v H3 (e2.trans e3) p
  | false => exact h2 rfl H2 (e.trans e2) Q fun v H3 e3 p => q v H3 (e2.trans e3) p
/-! what is walked -/
def Walks (wi : TI) (σ : L2.St) (H : Hp) (xs : List V) : Prop := ∀ H1, Ex H H1 → ∀ R : It → Hp → Prop, (∀ J H2 (G : Hp → Prop), Ex H1 H2 → Walk J xs.length G (YAt xs) → (∀ H3, Ex H2 H3 → G H3) → R J H2) → wi σ H1 R
variable {K : PySem.W.Frag} {a : Addr} {xs : List V}
theorem walks_list (h : Ev te σ H (.ref a)) (hx : SqL K H a xs) : Walks (iList K te) σ H xs := fun H1 e R q => h H1 e _ fun H2 e2 => ⟨a, rfl, ⟨xs, ex_l (e.trans e2) hx⟩, q _ H2 (fun H => SqL K H a xs) e2 walk_list fun H3 e3 => ex_l ((e.trans e2).trans e3) hx⟩
theorem walks_listN (h : EvL te σ H xs) : Walks (iList K te) σ H xs := fun H1 e R q => h H1 e _ fun p H2 hp e2 hx => ⟨p, rfl, ⟨xs, sq_of hx⟩, q _ H2 (fun H => SqL K H p xs) e2 walk_list fun H3 e3 => ex_l e3 (sq_of hx)⟩
theorem walks_tup (h : Ev te σ H (.ref a)) (hx : SqT K H a xs) : Walks (iTup K te) σ H xs := fun H1 e R q => h H1 e _ fun H2 e2 => ⟨a, rfl, ⟨xs, ex_t (e.trans e2) hx⟩, q _ H2 (fun H => SqT K H a xs) e2 walk_tup fun H3 e3 => ex_t ((e.trans e2).trans e3) hx⟩
def rngV (lo : Int) (n : Nat) : List V := (List.range n).map fun i => V.int (lo + (i : Nat))
theorem rngV_len (lo : Int) (n : Nat) : (rngV lo n).length = n := by
  unfold rngV
  rw [List.length_map, List.length_range]
theorem rngV_at {lo : Int} {n i : Nat} {x : V} (h : (rngV lo n)[i]? = some x) : i < n ∧ x = .int (lo + (i : Nat)) := by
  unfold rngV at h
  rw [List.getElem?_map] at h
  cases e : (List.range n)[i]? with
  | none =>
    rw [e] at h
    cases h
  | some j =>
    rw [e] at h
    have h1 := (List.getElem?_eq_some_iff.mp e)
    obtain ⟨hi, hj⟩ := h1
    rw [List.length_range] at hi
    rw [List.getElem_range] at hj
    subst hj
    exact ⟨hi, (Option.some.inj h).symm⟩
theorem walks_rng {ta : TA} {n : Int} (h : EvA ta σ H [.int n]) (hn : 0 ≤ n ∧ n ≤ 100000) : Walks (iRng1 ta) σ H (rngV 0 n.toNat) := fun H1 e R q => h H1 e _ fun H2 e2 => ⟨n, rfl, by omega, by omega, by
  refine q _ H2 (fun _ => True) e2 ?_ fun _ _ => True.intro
  rw [rngV_len]
  refine (walk_range (lo := 0) (n := n.toNat)).mono (fun _ _ => True.intro) fun i H x H' hi _ y => ?_
  obtain ⟨y1, y2⟩ := y
  refine ⟨y1, ?_⟩
  unfold rngV
  rw [List.getElem?_map, List.getElem?_range hi, y2]
  rfl⟩
/-! comprehensions -/
variable {wi : TI} {g : TG} {vs : List Nat}
theorem el_lcW (hW : Walks wi σ H xs) (hz : xs.length ≤ 40000) (s : Nat → V → L2.St) (hg : ∀ i x H1, Ex H H1 → xs[i]? = some x → ∀ Q : L2.St → Hp → Prop, Q (s i x) H1 → g x (wipe σ vs) H1 Q) (hw : ∀ i x, xs[i]? = some x → wipe (s i x) vs = wipe σ vs)
    (f : Nat → Bool) (v : Nat → V) (ht : ∀ i x H1, Ex H H1 → xs[i]? = some x → EvT t (s i x) H1 (f i)) (he : ∀ i x H1, Ex H H1 → xs[i]? = some x → f i = true → Ev te (s i x) H1 (v i)) : EvL (tLc wi g t te vs) σ H (given xs.length f v) := by
  intro H0 e0 Q q
  refine hW H0 e0 _ fun J H1 G e1 w hG Dl hD => ?_
  refine lc_it w (Cw H1 f v Dl) ⟨hD, Ex.new hD, upd_same⟩ (fun i H' _ p => hG H' p.2.1) (fun i x H' H2 hi p y => ?_) fun H' p => q Dl H' (fresh_back e1 p.1) (e1.trans p.2.1) p.2.2
  obtain ⟨rfl, hx⟩ := y
  have eH : Ex H H2 := (e0.trans e1).trans p.2.1
  refine hg i x H2 eH hx _ ⟨hw i x hx, ?_⟩
  exact cw_turn p (by omega) (ht i x H1 (e0.trans e1) hx) fun hf => he i x H1 (e0.trans e1) hx hf
def CwN (H : Hp) (f : Nat → Bool) (o : Nat → HO) (Dl : Addr) (i : Nat) (H' : Hp) : Prop := H Dl = none ∧ Ex H H' ∧ ∃ ys, H' Dl = some (.lst ys) ∧ Paired (fun o y => NewO H H' o y ∧ y ≠ .ref Dl) (((List.range i).filter f).map o) ys
theorem els_lcW (hW : Walks wi σ H xs) (hz : xs.length ≤ 40000) (s : Nat → V → L2.St) (hg : ∀ i x H1, Ex H H1 → xs[i]? = some x → ∀ Q : L2.St → Hp → Prop, Q (s i x) H1 → g x (wipe σ vs) H1 Q) (hw : ∀ i x, xs[i]? = some x → wipe (s i x) vs = wipe σ vs)
    (f : Nat → Bool) (o : Nat → HO) (ht : ∀ i x H1, Ex H H1 → xs[i]? = some x → EvT t (s i x) H1 (f i)) (he : ∀ i x H1, Ex H H1 → xs[i]? = some x → f i = true → EvN te (s i x) H1 (o i)) : EvLs (tLc wi g t te vs) σ H (((List.range xs.length).filter f).map o) := by
  intro H0 e0 Q q
  refine hW H0 e0 _ fun J H1 G e1 w hG Dl hD => ?_
  refine lc_it w (CwN H1 f o Dl) ⟨hD, Ex.new hD, [], upd_same, .nil⟩ (fun i H' _ p => hG H' p.2.1) (fun i x H' H2 hi p y => ?_) fun H' p => ?_
  · obtain ⟨rfl, hx⟩ := y
    have eH : Ex H H2 := (e0.trans e1).trans p.2.1
    refine hg i x H2 eH hx _ ⟨hw i x hx, ?_⟩
    obtain ⟨p1, p2, ys, p3, p4⟩ := p
    have hl : ys.length ≤ i := by
      have := pr_len p4
      rw [List.length_map] at this
      have h2 := List.length_filter_le f (List.range i)
      rw [List.length_range] at h2
      omega
    refine ht i x H2 eH hx H2 (Ex.refl _) _ fun H3 e3 => ?_
    cases hf : f i with
    | true =>
      refine he i x H2 eH hx hf H3 e3 _ fun r H4 hr e4 h4 => ⟨ys, e4 _ _ (e3 _ _ p3), sz_lt (by omega), p1, Ex.mut ((p2.trans e3).trans e4) p1, _, upd_same, ?_⟩
      have ne : ∀ q o', H2 q = some o' → r ≠ q := fun q o' hq z => by
        subst z
        rw [e3 _ _ hq] at hr
        cases hr
      have hrD : r ≠ Dl := ne Dl _ p3
      rw [List.range_succ, List.filter_append, List.filter_cons, if_pos hf, List.map_append]
      refine pr_snoc (pr_mono (fun o' y' ⟨⟨q', e', n', h'⟩, ne'⟩ => ⟨⟨q', e', n', by
        have hqD : q' ≠ Dl := fun z => ne' (by rw [e', z])
        rw [upd_ne hqD]
        exact e4 _ _ (e3 _ _ h')⟩, ne'⟩) p4) ⟨⟨r, rfl, fresh_back (p2.trans e3) hr, by
        rw [upd_ne hrD]
        exact h4⟩, fun z => hrD (V.ref.inj z)⟩
    | false =>
      show CwN H1 f o Dl (i + 1) H3
      refine ⟨p1, p2.trans e3, ys, e3 _ _ p3, ?_⟩
      rw [List.range_succ, List.filter_append, List.filter_cons, if_neg (by rw [hf]; decide)]
      rw [List.filter_nil, List.append_nil]
      exact pr_mono (fun o' y' ⟨⟨q', e', n', h'⟩, ne'⟩ => ⟨⟨q', e', n', e3 _ _ h'⟩, ne'⟩) p4
  · obtain ⟨p1, p2, ys, p3, p4⟩ := p
    exact q Dl ys H' (fresh_back e1 p1) (e1.trans p2) p3 (pr_mono (fun o' y' ⟨⟨q', e', n', h'⟩, _⟩ => ⟨q', e', fresh_back e1 n', h'⟩) p4)
/-! what the comprehension gives, said by the items -/
theorem given_all (n : Nat) (v : Nat → V) : given n (fun _ => true) v = (List.range n).map v := by
  unfold given
  rw [List.filter_eq_self.mpr fun _ _ => rfl]
theorem range_map_get {α β : Type} (l : List α) (d : α) (f : α → β) : (List.range l.length).map (fun i => f (l.getD i d)) = l.map f := by
  refine List.ext_getElem (by simp) fun i h1 h2 => ?_
  rw [List.getElem_map, List.getElem_map, List.getElem_range]
  congr 1
  rw [List.getD_eq_getElem?_getD, List.getElem?_eq_getElem (by simpa using h2)]
  rfl
theorem range_filter_get {α β : Type} (d : α) (p : α → Bool) (f : α → β) : ∀ l : List α, ((List.range l.length).filter fun i => p (l.getD i d)).map (fun i => f (l.getD i d)) = (l.filter p).map f
  | [] => rfl
  | a :: l => by
    have ih := range_filter_get d p f l
    rw [List.length_cons, List.range_succ_eq_map, List.filter_cons, List.filter_map]
    have e : ((fun i => p ((a :: l).getD i d)) ∘ Nat.succ) = fun i => p (l.getD i d) := by
      funext i
      rfl
    rw [e]
    show (if p a = true then _ else _ : List Nat).map _ = _
    rw [List.filter_cons]
    by_cases c : p a = true
    · rw [if_pos c, if_pos c, List.map_cons, List.map_cons, List.map_map, ← ih]
      rfl
    · rw [if_neg c, if_neg c, List.map_map, ← ih]
      rfl
/-! targets -/
theorem g_two {i j : Nat} {H1 : Hp} {p : Addr} {x y : V} {σ' : L2.St} {Q : L2.St → Hp → Prop} (h : H1 p = some (.tup [x, y])) (q : Q ((σ'.set i (some x)).set j (some y)) H1) : gTup K 2 (gCons (gName i) (gCons (gName j) gNil)) (.ref p) σ' H1 Q :=
  ⟨p, [x, y], rfl, st_of h, rfl, x, [y], rfl, y, [], rfl, rfl, q⟩
theorem g_three {i j k : Nat} {H1 : Hp} {p : Addr} {x y z : V} {σ' : L2.St} {Q : L2.St → Hp → Prop} (h : H1 p = some (.tup [x, y, z])) (q : Q (((σ'.set i (some x)).set j (some y)).set k (some z)) H1) : gTup K 3 (gCons (gName i) (gCons (gName j) (gCons (gName k) gNil))) (.ref p) σ' H1 Q :=
  ⟨p, [x, y, z], rfl, st_of h, rfl, x, [y, z], rfl, y, [z], rfl, z, [], rfl, rfl, q⟩
/-! reading tables -/
theorem at_of {α : Type} {xs : List α} {j : Nat} {v : α} (h : xs[j]? = some v) : atI xs (j : Int) = some v := atI_nat h
theorem rowV_at {n j : Nat} {f : Nat → Int} (h : j < n) : (rowV n f)[j]? = some (.int (f j)) := by
  unfold rowV
  rw [List.getElem?_map, List.getElem?_range h]
  rfl
theorem ev_cell {n i j : Nat} {D : Tab} {w : V} (h1 : Ev ta σ H w) (h2 : Ev tb σ H (.int (i : Nat))) (h3 : Ev tc σ H (.int (j : Nat))) (hT : TabP n H D w) (hi : i < n) (hj : j < n) : Ev (tOp (rIxL K) (tOp (rIxL K) ta tb) tc) σ H (.int (D i j)) := by
  obtain ⟨p, ws, rfl, hp, hl, hr⟩ := hT
  obtain ⟨q, hq, hw⟩ := hr i hi
  exact ev_op (ev_op h1 h2 (rv_ixL (sq_of hp) (at_of hq))) h3 (rv_ixL (sq_of hw) (at_of (rowV_at hj)))
end
end K8
/-! for i, x in enumerate(a tuple) -/
namespace K8
open PySem PySem.Spec PyProof.Rows L2
section
open Sem (wp)
theorem meets_enum1 {v : Value} {o : Obj} {Hh : Heap → Prop} (B : Begins v o Hh) :
    Meets (Builtin.«enumerate.__new__» ⟨[.type "enumerate", v], []⟩) (fun _ R s => Hh s.heap ∧
      R (.ok (.ret (.ref (s.heap.push o).objs.size)))
        { s with heap := (s.heap.push o).push { cls := .type "enumerate", data := .fields #[.none, .bool false, .ref s.heap.objs.size, rawInt 0, .none, .none] } }) :=
  .of_wp fun prog w A R s hyp => by
    obtain ⟨hp, gn, dn, tk, os⟩ := s
    obtain ⟨hb, hyp⟩ := hyp
    have hsub := sub_enumerate
    have it1 : ∀ {A' : Around} {E' : Value → Shared → Prop} {Q' : Value → Shared → Prop}, Q' (.ref hp.objs.size) ⟨hp.push o, gn, dn, tk, os⟩ → wpAny (model prog w) A' (pyIter v) Q' E' ⟨hp, gn, dn, tk, os⟩ :=
      fun z => B.iter prog w _ _ ⟨hp, gn, dn, tk, os⟩ _ hb z
    wp_walk using it1
    refine wpAny_stack_any fun st => wpAny_pure ?_
    split
    · rename_i c _ _ _ _ _
      cases (c == Value.type "enumerate")
      · wp_walk using it1
        exact ⟨_, rfl, hyp⟩
      · wp_walk using it1
        exact ⟨_, rfl, hyp⟩
    · wp_walk using it1
      exact ⟨_, rfl, hyp⟩
theorem enum_begins1 {prog : Program} {w : World} {A : Around} {E : Value → Shared → Prop} {s : Shared} {v : Value} {o : Obj} {Hh : Heap → Prop} {Q : Value → Shared → Prop} (B : Begins v o Hh) (hb : Hh s.heap)
    (k : ∀ h', IsEnum h' (s.heap.objs.size + 1) s.heap.objs.size 0 .none → h'.get? s.heap.objs.size = some o →
      (∀ b u, s.heap.get? b = some u → h'.get? b = some u) → Q (.ref (s.heap.objs.size + 1)) { s with heap := h' }) : wpAny (model prog w) A (call (.type "enumerate") [v]) Q E s := by
  refine callType_new F.called_enumerate (by decide) (F.typeCall_enumerate_1 _) (F.newCall_enumerate_1 _) (fun ob => F.args_object_init_2 ob _) F.entry_enumerate_new (meets_enum1 B) ⟨hb, ?_⟩
  have sz : (s.heap.push o).objs.size = s.heap.objs.size + 1 := Heap.size_push ..
  have he := Heap.get?_push_size (s.heap.push o) (o := { cls := .type "enumerate", data := .fields #[.none, .bool false, .ref s.heap.objs.size, rawInt 0, .none, .none] }) rfl
  show _ ∧ _
  rw [sz] at he ⊢
  exact ⟨⟨_, he, rfl⟩, k _ he (Heap.get?_push_of_some _ (Heap.get?_push_size _ B.free)) fun b u x => Heap.get?_push_of_some _ (Heap.get?_push_of_some _ x)⟩
end
/-- the tuple at a, each item in a new pair -/
def IteT (K : PySem.W.Frag) (a : Addr) : It :=
  ⟨fun i H => ∃ (xs : List V) (x : V), SqT K H a xs ∧ xs[i]? = some x,
   fun i H v H' => ∃ T x, v = .ref T ∧ H T = none ∧ H' = upd H T (.tup [.int (i : Nat), x]) ∧ ∀ xs, SqT K H a xs → xs[i]? = some x,
   fun i H => ∃ xs : List V, SqT K H a xs ∧ xs.length = i⟩
theorem turn_enumT {P : Program} {w : World} {K : PySem.W.Frag} {elts : List Expr} {kk : Nat} {tpos : Pos} (a e it : Addr) :
    Turn P w K (.Tuple elts kk tpos) (IteT K a) [e, it] e (fun i h => (∃ old, IsEnum h e it ((i : Nat) : Int) old) ∧ h.IsTupleIter it a i ∧ e ≠ it ∧ a ≠ it) where
  mem := List.mem_cons_self ..
  obj := fun i h st b hb => by
    obtain ⟨⟨old, he⟩, ⟨o, ho, hc, hd⟩, _⟩ := st
    rcases List.mem_cons.mp hb with z | hb
    · subst z
      exact ⟨_, he, fun v q => nomatch q⟩
    · rcases List.mem_singleton.mp hb with z
      subst z
      exact ⟨o, ho, fun v q => by rw [hd] at q; cases q⟩
  keep := fun i h h' st k => by
    obtain ⟨⟨old, he⟩, hi, hne⟩ := st
    exact ⟨⟨old, k e (by simp) _ he⟩, hi.at fun o q => k it (by simp) o q, hne⟩
  item := by
    intro X hP hw hK hc i pins s σ H E I hf st hg
    subst hP hw hK
    obtain ⟨⟨old, he⟩, hit, hne, hai⟩ := st
    obtain ⟨xs, x, hq, hx⟩ := hg
    obtain ⟨its, rv, p, hz⟩ := I.tuple hq
    obtain ⟨u, hu, ru⟩ := rv.get hx
    have hel : e < s.heap.objs.size := Heap.lt_size he
    have hil : it < s.heap.objs.size := by
      obtain ⟨_, q, _⟩ := hit
      exact Heap.lt_size q
    have hea : e ≠ a := fun z => by
      subst z
      obtain ⟨o, ho, hcl, _⟩ := p
      rw [show s.heap.get? e = some _ from he] at ho
      cases ho
      injection hcl with z
      exact absurd z (by decide)
    have hlen : i < its.toArray.size := by
      have h1 := (List.getElem?_eq_some_iff.mp hu).1
      simpa using h1
    refine wpAny_pyNext_enum_itemD (Draws.tuple (A := X.A.in1) (I.ok.hd hc) it a hai its.toArray) he ⟨hit, p⟩ hlen hne (by simp [hne, hea]) fun y h' tk hy ho hst hT hsz hk => ?_
    have hy : its[i]? = some y := by simpa using hy
    obtain rfl : u = y := Option.some.inj (hu.symm.trans hy)
    refine ⟨_, rfl, wpAny_letOwnedTupleGo_enum (s := { s with heap := h', toks := tk + 1 }) ho fun h2 he2 sb => ?_⟩
    have hT2 : h2.get? s.heap.objs.size = some { cls := .type "tuple", data := .seq #[.int i tk, u] } := (sb.2 _ (Nat.ne_of_gt hel)).trans hT
    have new : ObjOk X.prog X.w (upd H s.heap.objs.size (.tup [.int (i : Nat), x])) h2 s.heap.objs.size (.tup [.int (i : Nat), x]) :=
      ⟨by show 2 ≤ sizeLine; decide, [.int i tk, u], .cons ⟨_, rfl⟩ (.cons ru .nil), ⟨_, hT2, rfl, _, rfl⟩⟩
    have I2 : Inv X pins σ (upd H s.heap.objs.size (.tup [.int (i : Nat), x])) { s with heap := h2, toks := tk + 1 } :=
      I.turnedNew (ch := [e, it]) (fun b ob hb q => (sb.2 b (fun z => hb (by rw [z]; simp))).trans (hk b ob (fun z => hb (by rw [z]; simp)) (fun z => hb (by rw [z]; simp)) q)) hf (Nat.le_refl _) new
    refine ⟨.ref s.heap.objs.size, _, I2, rfl, ⟨_, x, rfl, I.hok.fresh (Nat.le_refl _), rfl, fun ys hy2 => ?_⟩, ⟨⟨u, ?_⟩, hst.1.at fun o q => (sb.2 it (Ne.symm hne)).trans q, hne, hai⟩, fun b hb => ?_⟩
    · rw [I.tuple_inj hy2 hq]
      exact hx
    · rw [show ((i + 1 : Nat) : Int) = (i : Int) + 1 by omega]
      exact he2
    · have lt : b < s.heap.objs.size := by
        rcases List.mem_cons.mp hb with z | hb
        · rw [z]; exact hel
        · rw [List.mem_singleton.mp hb]; exact hil
      rw [upd_ne (Nat.ne_of_lt lt)]
      exact (hf b hb).1
  done := by
    intro X hP hw hK hc i pins s σ H E I hf st hg
    subst hP hw hK
    obtain ⟨⟨old, he⟩, hit, hne, hai⟩ := st
    obtain ⟨xs, hq, hx⟩ := hg
    obtain ⟨its, rv, p, hz⟩ := I.tuple hq
    obtain ⟨f0, f1, f2, f3, f4, f5⟩ := hf it (by simp)
    have hl : its.toArray.size = i := by
      have := rv.length
      simp
      omega
    have st : s.heap.IsTupleIter it a its.toArray.size ∧ s.heap.IsTuple a its.toArray := ⟨by rw [hl]; exact hit, p⟩
    exact wpAny_pyNext_enum_endD (Draws.tuple (A := X.A.in1) (I.ok.hd hc) it a hai its.toArray) he st fun h' eb => ⟨rfl, I.turned (t' := s.toks) (fun b o hb q => eb b o hb q) f0 f1 f3 f4 f5⟩
  self := fun A i s Q E st h => by
    obtain ⟨⟨_, he⟩, _⟩ := st
    exact wpAny_pyIter_enum he h
def iEnumT (K : PySem.W.Frag) (ta : TA) : TI := fun σ H R => ta σ H fun vs H1 => ∃ a xs, vs = [.ref a] ∧ SqT K H1 a xs ∧ R (IteT K a) H1
theorem pi_enumT {X : Cx} {e : Expr} {ta : TA} {p pos tpos : Pos} {elts : List Expr} {kk : Nat} (hg : Gl X "enumerate") (hm : X.mg "enumerate" = none) (ha : PA X [e] ta) (hs : starEach [e] X.env = [(false, eval e X.env)] := by rfl) :
    PI X (.Tuple elts kk tpos) (.Call (.Name "enumerate" p) [e] [] pos) (iEnumT X.K ta) := by
  refine ⟨fun pins s σ H R I h => ?_⟩
  refine Call_ (ld_blt I hg hm boot_enumerate (PyProof.Rows.callWith_type1 (thn (ha.run pos pins s σ H _ I h) fun us s1 ⟨vs, H1, I1, r1, q1⟩ => ?_) hs rfl))
  obtain ⟨a, xs, ex, hq, q⟩ := q1
  subst ex
  cases r1 with
  | cons r rr =>
    cases rr
    cases r
    obtain ⟨its, rv, pt, hz⟩ := I1.tuple hq
    refine enum_begins1 (begins_tuple a its.toArray) pt fun h' he hit hk => wpAny_pyIter_enum he ?_
    have I2 : Inv X pins σ H1 { s1 with heap := h' } := I1.kept (t' := s1.toks) hk
    have al : a < s1.heap.objs.size := by
      obtain ⟨_, q2, _⟩ := pt
      exact Heap.lt_size q2
    refine ⟨s1.heap.objs.size + 1, [s1.heap.objs.size + 1, s1.heap.objs.size], _, _, H1, rfl, I2, turn_enumT a (s1.heap.objs.size + 1) s1.heap.objs.size, ⟨⟨.none, he⟩, ⟨_, hit, rfl, rfl⟩, Nat.succ_ne_self _, Nat.ne_of_lt al⟩, fun b hb => ?_, q⟩
    have hle : s1.heap.objs.size ≤ b := by
      rcases List.mem_cons.mp hb with z | z
      · rw [z]
        exact Nat.le_succ _
      · rw [List.mem_singleton.mp z]
        exact Nat.le_refl _
    exact I1.fpOk hle (I1.hok.fresh hle)
theorem walk_enumT {K : PySem.W.Frag} {a : Addr} {xs : List V} : Walk (IteT K a) xs.length (fun H => SqT K H a xs) (YPair (fun i => some (.int (i : Nat))) (fun i => xs[i]?)) := by
  refine ⟨fun i _ hi q => ⟨xs, xs[i], q, by simp [hi]⟩, fun _ q => ⟨xs, q, rfl⟩, fun i H v H' _ q y => ?_⟩
  obtain ⟨T, x, h1, h2, h3, h4⟩ := y
  exact ⟨T, .int (i : Nat), x, h1, h2, h3, rfl, h4 xs q⟩
end K8
/-! What all bodies lean on: the text's statements by place, the built-in names, a block within a block. -/
namespace K8
open PySem PySem.Spec PyProof.Rows L2 Evl
def topS (i : Nat) : Stmt := PySem.Challenge.pw_littowers_k08_whole_tops.main.body.getD i (.Pass ⟨0, 0, 0, 0⟩)
structure Glob (mg : Str → Option Value) : Prop where
  len_ : mg "len" = none
  abs_ : mg "abs" = none
  max_ : mg "max" = none
  min_ : mg "min" = none
  any_ : mg "any" = none
  all_ : mg "all" = none
  sorted_ : mg "sorted" = none
  tuple_ : mg "tuple" = none
  list_ : mg "list" = none
  int_ : mg "int" = none
  bool_ : mg "bool" = none
  str_ : mg "str" = none
  dict_ : mg "dict" = none
  isinstance_ : mg "isinstance" = none
  range_ : mg "range" = none
  enumerate_ : mg "enumerate" = none
  MOST_PLACES : ∃ u, mg "MOST_PLACES" = some u ∧ RelV (.int 8) u
  MOST_LENGTH : ∃ u, mg "MOST_LENGTH" = some u ∧ RelV (.int 9) u
  MOST_LISTS : ∃ u, mg "MOST_LISTS" = some u ∧ RelV (.int 20000) u
theorem blkOk_in {N : List Str} {sc scope1 scope : Scope} {own : List (Str × Nat)} {cl : List (Str × Addr)} {C : Addr} {env : Env} (hs : env.scope = sc) (h : blkC N (relS scope1 sc) scope own = true) : BlkOk N (compEnvC scope1 cl C env).scope scope own := by
  have e : (compEnvC scope1 cl C env).scope = relS scope1 sc := by
    rw [← hs]
    rfl
  rw [e]
  exact blkOk_by h
/-- a def that may be called: one row -/
abbrev Ca (P : Program) (w : World) (K : PySem.W.Frag) (mg : Str → Option Value) (base : Heap) (k : Nat) (x : Str) (sp : Sp) : Prop := C8.Cal P w K mg base k x sp []
theorem ca_mk {P : Program} {w : World} {K : PySem.W.Frag} {mg : Str → Option Value} {base : Heap} {k : Nat} {x : Str} {sp : Sp} {f : Addr} {fd : FuncData} {ps : List Str} (F : FnOk P w K mg base CX0 k f fd ps sp) (gf : mg x = some (.ref f)) (kp : PySem.W.keepIn K (.ref f) = true) (b : Binds K fd ps []) : Ca P w K mg base k x sp := ⟨f, fd, ps, [], F, gf, kp, b, .nil⟩
/-- what the top has of a def: its function, its name, how arguments bind -/
structure Dv (K : PySem.W.Frag) (mg : Str → Option Value) (x : Str) (st : Stmt) (ps : List Str) : Prop where
  ex : ∃ (f : Addr) (fd : FuncData), Fun K x x st f fd ∧ mg x = some (.ref f) ∧ Binds K fd ps []
/-- a def's promise, from its body -/
theorem dv_ok {P : Program} {w : World} {K : PySem.W.Frag} {mg : Str → Option Value} {base : Heap} {x : Str} {st : Stmt} {N ps : List Str} {k : Nat} {sp : Sp} (D : Dv K mg x st ps) (S : FnScope N ps (defScope st)) (len : ∀ vs H Q E, sp vs H Q E → vs.length = ps.length)
    (hbody : ∀ (f : Addr) (cdv : Value) (A : Around) (outer : List Env) (s : Shared) (H : Hp) (vs : List V) (Q : VK) (E : XK), Room k (A.deeper (envOfC x (defScope st) s.heap.objs.size f cdv)) → sp vs H Q E →
      ∃ t, PSs (cxOf CX0 P w K mg base N x (defScope st) f cdv A outer s H E).nox (defBody st) t ∧ t { nx := fun _ H' => Q .non H', rt := Q } (start N vs) H) : Ca P w K mg base (k + 1) x sp := by
  obtain ⟨f, fd, F, gf, b⟩ := D.ex
  exact ca_mk (F.ok S len fun cdv A outer s H vs Q E hr h => hbody f cdv A outer s H vs Q E hr h) gf F.kp b
section
variable {X : Cx} {a b c d : Expr} {ta tb tc td : TE} {pos : Pos}
/-- a op1 b op2 c op3 d -/
def tChain3 (r r' r2 : R2) (ta tb tc td : TE) : TE := fun σ H Q => ta σ H fun x H1 => tb σ H1 fun y H2 => r x y H2 fun z H3 => ∃ k, z = .bl k ∧
  (if k = true then tc σ H3 fun y2 H4 => r' y y2 H4 fun z2 H5 => ∃ k2, z2 = .bl k2 ∧ (if k2 = true then td σ H5 fun y3 H6 => r2 y2 y3 H6 Q else Q (.bl false) H5) else Q (.bl false) H3)
theorem pe_chain3 {op op' op2 : CmpOp} {r r' r2 : R2} (ho : OpR X (compareOp op) r) (ho' : OpR X (compareOp op') r') (ho2 : OpR X (compareOp op2) r2) (ha : PE X a ta) (hb : PE X b tb) (hc : PE X c tc) (hd : PE X d td)
    (hm : lastMarks [op, op', op2] [b, c, d] = false := by with_unfolding_all rfl) : PE X (.Compare a [op, op', op2] [b, c, d] pos) (tChain3 r r' r2 ta tb tc td) := by
  refine ⟨fun pins s σ H Q I h => ?_⟩
  refine Compare_chain (thn (ha.run pins s σ H _ I h) fun v s1 ⟨x, H1, I1, e1, q1⟩ => chain_link (thn (hb.run pins s1 σ H1 _ I1 q1) fun u s2 ⟨y, H2, I2, e2, q2⟩ =>
    thn (ho pins s2 σ H2 x y v u _ I2 e1 e2 q2) fun z0 s3 ⟨z, H3, I3, e3, k, ek, q3⟩ => ?_)) hm
  subst ek
  cases e3
  refine wpAny_truthy_bool ?_
  cases k with
  | false => exact ite_ff ⟨.bl false, H3, I3, rfl, q3⟩
  | true =>
    refine ite_tt (chain_link (thn (hc.run pins s3 σ H3 _ I3 q3) fun u2 s4 ⟨y2, H4, I4, e4, q4⟩ => thn (ho' pins s4 σ H4 y y2 u u2 _ I4 e2 e4 q4) fun z1 s5 ⟨z2, H5, I5, e5, k2, ek2, q5⟩ => ?_))
    subst ek2
    cases e5
    refine wpAny_truthy_bool ?_
    cases k2 with
    | false => exact ite_ff ⟨.bl false, H5, I5, rfl, q5⟩
    | true => exact ite_tt (chain_last (thn (hd.run pins s5 σ H5 _ I5 q5) fun u3 s6 ⟨y3, H6, I6, e6, q6⟩ => ho2 pins s6 σ H6 y2 y3 u2 u3 Q I6 e4 e6 q6))
/-- name *= an int -/
theorem ip_mulI {X : Cx} : PIp X .Mult (fun x y H Q => ∃ i j, x = .int i ∧ y = .int j ∧ (-(2 ^ 64) < j ∧ j < 2 ^ 64) ∧ Q (.int (i * j)) H) := by
  intro pins s σ H x y v u Q I r1 r2 h
  obtain ⟨i, j, rfl, rfl, hj, q⟩ := h
  obtain ⟨t, rfl⟩ := r1
  obtain ⟨t', rfl⟩ := r2
  exact PyProof.Rows.imul_int ⟨.int _, H, I.tok _, ⟨_, rfl⟩, q⟩ (CMul.ok (.inr hj))
end
end K8
/-! Words for the walk, further: calls upon new lists. -/
namespace K8
open PySem PySem.Spec PyProof.Rows L2 Evl
section
variable {K : PySem.W.Frag} {σ : L2.St} {H H' : Hp} {ta tb te tc : TE} {t u : TT} {x y z v : V} {xs ys : List V} {ns : List Int}
theorem ev_cbL {r : List V → Hp → VK → Prop} (h : EvL te σ H xs) (hr : ∀ p H1, Ex H H1 → H1 p = some (.lst xs) → ∀ Q : VK, (∀ H2, Ex H1 H2 → Q z H2) → r [.ref p] H1 Q) : Ev (tCB r (tCons te tNil)) σ H z := fun H1 e Q q =>
  h H1 e _ fun p H2 hp e2 h2 => hr p H2 (e.trans e2) h2 Q fun H3 e3 => q H3 (e2.trans e3)
theorem ev_all {bs : List Bool} (h : EvL te σ H (bs.map V.bl)) : Ev (tCB (rAll K) (tCons te tNil)) σ H (.bl (bs.all id)) := ev_cbL h fun p H1 _ hp Q q => ⟨p, bs, rfl, sq_of hp, q H1 (Ex.refl _)⟩
theorem ev_any {bs : List Bool} (h : EvL te σ H (bs.map V.bl)) : Ev (tCB (rAny K) (tCons te tNil)) σ H (.bl (bs.any id)) := ev_cbL h fun p H1 _ hp Q q => ⟨p, bs, rfl, sq_of hp, q H1 (Ex.refl _)⟩
theorem pos_len {l : List Int} (h : l ≠ []) : 0 < l.length := List.length_pos_iff.mpr h
theorem ev_max (h : EvL te σ H (ns.map V.int)) (hne : ns ≠ []) : Ev (tCB (rMax K) (tCons te tNil)) σ H (.int (lmax ns)) := ev_cbL h fun p H1 _ hp Q q => ⟨p, ns, rfl, sq_of hp, pos_len hne, fun m hm hle => by
  rw [← lmax_eq hm hle]
  exact q H1 (Ex.refl _)⟩
theorem ev_min (h : EvL te σ H (ns.map V.int)) (hne : ns ≠ []) : Ev (tCB (rMin K) (tCons te tNil)) σ H (.int (lmin ns)) := ev_cbL h fun p H1 _ hp Q q => ⟨p, ns, rfl, sq_of hp, pos_len hne, fun m hm hle => by
  rw [← lmin_eq hm hle]
  exact q H1 (Ex.refl _)⟩
/-- tuple(a new list) -/
theorem eu_tupleOf (h : EvL te σ H xs) : EvU (tCB (fun vs H Q => ∃ p ys, vs = [.ref p] ∧ ((SqL K H p ys ∧ ∀ l, H l = none → Q (.ref l) (upd H l (.tup ys))) ∨ (SqT K H p ys ∧ Q (.ref p) H))) (tCons te tNil)) σ H xs := fun H1 e Q q =>
  h H1 e _ fun p H2 hp e2 h2 => ⟨p, xs, rfl, .inl ⟨sq_of h2, fun l hl => q l _ (fresh_back e2 hl) (e2.trans (Ex.new hl)) upd_same⟩⟩
theorem evs_tupleOf {os : List HO} (h : EvLs te σ H os) : ∀ H1, Ex H H1 → ∀ Q : VK, (∀ p ys H2, H1 p = none → Ex H1 H2 → H2 p = some (.tup ys) → Paired (NewO H1 H2) os ys → Q (.ref p) H2) → (tCB (fun vs H Q => ∃ p ys, vs = [.ref p] ∧ ((SqL K H p ys ∧ ∀ l, H l = none → Q (.ref l) (upd H l (.tup ys))) ∨ (SqT K H p ys ∧ Q (.ref p) H))) (tCons te tNil)) σ H1 Q := fun H1 e Q q =>
  h H1 e _ fun p zs H2 hp e2 h2 hz => ⟨p, zs, rfl, .inl ⟨sq_of h2, fun l hl => q l zs _ (fresh_back e2 hl) (e2.trans (Ex.new hl)) upd_same (pr_mono (fun o y ⟨r, e1, n1, k1⟩ => ⟨r, e1, n1, (Ex.new hl) _ _ k1⟩) hz)⟩⟩
theorem ev_len2 {p : Addr} (ha : Ev ta σ H (.ref p)) (h : SqL K H p xs ∨ SqT K H p xs) : Ev (tCB (fun vs H Q => ∃ p ys, vs = [.ref p] ∧ (SqL K H p ys ∨ SqT K H p ys) ∧ Q (.int ys.length) H) (tCons ta tNil)) σ H (.int (xs.length : Int)) := fun H1 e Q q =>
  ha H1 e _ fun H2 e2 => ⟨p, xs, rfl, h.imp (ex_l (e.trans e2)) (ex_t (e.trans e2)), q H2 e2⟩
theorem ev_lenL (h : EvL te σ H xs) : Ev (tCB (fun vs H Q => ∃ p ys, vs = [.ref p] ∧ (SqL K H p ys ∨ SqT K H p ys) ∧ Q (.int ys.length) H) (tCons te tNil)) σ H (.int (xs.length : Int)) := ev_cbL h fun p H1 _ hp Q q => ⟨p, xs, rfl, .inl (sq_of hp), q H1 (Ex.refl _)⟩
theorem ev_abs {i : Int} (h : Ev te σ H (.int i)) : Ev (tCB (fun vs H Q => ∃ i, vs = [.int i] ∧ Q (.int (if i < 0 then -i else i)) H) (tCons te tNil)) σ H (.int (absI i)) := fun H1 e Q q =>
  h H1 e _ fun H2 e2 => ⟨i, rfl, q H2 e2⟩
theorem ev_mn2 {i j : Int} (ha : Ev ta σ H (.int i)) (hb : Ev tb σ H (.int j)) : Ev (tCB (fun vs H Q => ∃ i j, vs = [.int i, .int j] ∧ Q (.int (if j < i then j else i)) H) (tCons ta (tCons tb tNil))) σ H (.int (min i j)) := fun H1 e Q q =>
  ha H1 e _ fun H2 e2 => hb H2 (e.trans e2) _ fun H3 e3 => ⟨i, j, rfl, by
    have : (if j < i then j else i) = min i j := by split <;> omega
    rw [this]
    exact q H3 (e2.trans e3)⟩
theorem ev_mx2 {i j : Int} (ha : Ev ta σ H (.int i)) (hb : Ev tb σ H (.int j)) : Ev (tCB (fun vs H Q => ∃ i j, vs = [.int i, .int j] ∧ Q (.int (if j > i then j else i)) H) (tCons ta (tCons tb tNil))) σ H (.int (max i j)) := fun H1 e Q q =>
  ha H1 e _ fun H2 e2 => hb H2 (e.trans e2) _ fun H3 e3 => ⟨i, j, rfl, by
    have : (if j > i then j else i) = max i j := by split <;> omega
    rw [this]
    exact q H3 (e2.trans e3)⟩
theorem et_yes : EvT tYes σ H true := fun H1 _ Q q => q H1 (Ex.refl _)
/-- comparisons of ints -/
theorem ev_lt {i j : Int} (ha : Ev ta σ H (.int i)) (hb : Ev tb σ H (.int j)) : Ev (tOp (rI0 fun i j => .bl (decide (i < j))) ta tb) σ H (.bl (decide (i < j))) := ev_op ha hb (rv_I0 (g := fun i j => .bl (decide (i < j))))
theorem ev_le {i j : Int} (ha : Ev ta σ H (.int i)) (hb : Ev tb σ H (.int j)) : Ev (tOp (rI0 fun i j => .bl (decide (i ≤ j))) ta tb) σ H (.bl (decide (i ≤ j))) := ev_op ha hb (rv_I0 (g := fun i j => .bl (decide (i ≤ j))))
theorem ev_gt {i j : Int} (ha : Ev ta σ H (.int i)) (hb : Ev tb σ H (.int j)) : Ev (tOp (rI0 fun i j => .bl (decide (j < i))) ta tb) σ H (.bl (decide (j < i))) := ev_op ha hb (rv_I0 (g := fun i j => .bl (decide (j < i))))
theorem ev_ge {i j : Int} (ha : Ev ta σ H (.int i)) (hb : Ev tb σ H (.int j)) : Ev (tOp (rI0 fun i j => .bl (decide (j ≤ i))) ta tb) σ H (.bl (decide (j ≤ i))) := ev_op ha hb (rv_I0 (g := fun i j => .bl (decide (j ≤ i))))
theorem ev_add {i j : Int} (ha : Ev ta σ H (.int i)) (hb : Ev tb σ H (.int j)) : Ev (tOp (rI0 fun i j => .int (i + j)) ta tb) σ H (.int (i + j)) := ev_op ha hb (rv_I0 (g := fun i j => .int (i + j)))
theorem ev_sub {i j : Int} (ha : Ev ta σ H (.int i)) (hb : Ev tb σ H (.int j)) : Ev (tOp (rI0 fun i j => .int (i - j)) ta tb) σ H (.int (i - j)) := ev_op ha hb (rv_I0 (g := fun i j => .int (i - j)))
theorem ev_eqI {i j : Int} (ha : Ev ta σ H (.int i)) (hb : Ev tb σ H (.int j)) : Ev (tOp rEq ta tb) σ H (.bl (decide (i = j))) := ev_is (ev_op ha hb (rv_eq rfl)) (by
  congr 1
  rw [Bool.eq_iff_iff, decide_eq_true_eq, decide_eq_true_eq]
  exact ⟨fun h => V.int.inj h, fun h => congrArg _ h⟩)
theorem ev_neI {i j : Int} (ha : Ev ta σ H (.int i)) (hb : Ev tb σ H (.int j)) : Ev (tOp rNe ta tb) σ H (.bl (decide (i ≠ j))) := ev_is (ev_op ha hb (rv_ne rfl)) (by
  congr 1
  rw [Bool.eq_iff_iff, Bool.not_eq_true', decide_eq_false_iff_not, decide_eq_true_eq]
  exact ⟨fun h z => h (congrArg _ z), fun h z => h (V.int.inj z)⟩)
/-- x in places, x not in places -/
theorem inV_nat {q : Nat} {l : List Nat} : inV (.int (q : Nat)) (l.map fun p : Nat => V.int (p : Nat)) = decide (q ∈ l) := by
  unfold inV
  rw [Bool.eq_iff_iff, List.any_eq_true, decide_eq_true_eq]
  constructor
  · rintro ⟨y, hy, e⟩
    obtain ⟨p, hp, rfl⟩ := List.mem_map.mp hy
    have e : ((p : Int) == (q : Int)) = true := e
    have : (p : Int) = (q : Int) := by simpa using e
    have : p = q := by omega
    rw [← this]
    exact hp
  · intro h
    refine ⟨_, List.mem_map.mpr ⟨q, h, rfl⟩, ?_⟩
    show ((q : Int) == (q : Int)) = true
    simp
theorem flat_nat (l : List Nat) : (l.map fun p : Nat => V.int (p : Nat)).all flatV = true := by
  rw [List.all_map, List.all_eq_true]
  exact fun _ _ => rfl
/-- a name's place, upon a list | a tuple of places -/
theorem ev_inL {q : Nat} {l : List Nat} {p : Addr} {tx : TE} (hx : Ev tx σ H (.int (q : Nat))) (hy : Ev ta σ H (.ref p)) (h : SqL K H p (l.map fun p : Nat => V.int (p : Nat))) : Ev (tOp (rIn K false) tx ta) σ H (.bl (decide (q ∈ l))) :=
  ev_is (ev_op hx hy (rv_isL h rfl (flat_nat l))) (by rw [inV_nat])
theorem ev_notInL {q : Nat} {l : List Nat} {p : Addr} {tx : TE} (hx : Ev tx σ H (.int (q : Nat))) (hy : Ev ta σ H (.ref p)) (h : SqL K H p (l.map fun p : Nat => V.int (p : Nat))) : Ev (tOp (rIn K true) tx ta) σ H (.bl (!decide (q ∈ l))) :=
  ev_is (ev_op hx hy (rv_niL h rfl (flat_nat l))) (by rw [inV_nat])
end
end K8
/-! whole, within, need_number, tuple_of, is_rod -/
namespace K8
open PySem PySem.Spec PyProof.Rows L2 Evl
theorem tyx_tup {K : PySem.W.Frag} {H : Hp} {p : Addr} {xs : List V} (h : Rd H p (.tup xs)) : TyX K H (.ref p) (.type "tuple") := by
  rcases h with h | ⟨o, h⟩
  · exact .base (.tup h)
  · exact .fTuple h
section
variable {P : Program} {w : World} {K : PySem.W.Frag} {mg : Str → Option Value} {base : Heap}
theorem sc_whole : FnScope ["value"] ["value"] (defScope (topS 10)) := ⟨rfl, rfl, rfl, by decide +kernel, rfl, by decide +kernel, by decide +kernel⟩
def spWhole : Sp := fun vs H Q _ => ∃ i, vs = [.int i] ∧ Q (.bl true) H
theorem ok_whole (D : Dv K mg "whole" (topS 10) ["value"]) (G : Glob mg) : Ca P w K mg base 1 "whole" spWhole := by
  refine dv_ok D sc_whole (fun vs H Q E h => ?_) (fun f cdv A outer s H vs Q E hr h => ?_)
  · obtain ⟨i, rfl, _⟩ := h
    rfl
  · obtain ⟨i, rfl, q⟩ := h
    refine ⟨_, (pss_one (ps_ret (pe_and (pe_callB call_isi (by rfl) G.isinstance_ (by decide +kernel) (pa_cons (pv 0) (pa_cons (pe_bltn (v := .ty "int") (by rfl) G.int_ (by decide +kernel) rfl) pa_nil))) (pe_one (pe_not (pe_callB call_isi (by rfl) G.isinstance_ (by decide +kernel) (pa_cons (pv 0) (pa_cons (pe_bltn (v := .ty "bool") (by rfl) G.bool_ (by decide +kernel) rfl) pa_nil)))))))), ?_⟩
    refine ⟨.int i, rfl, .int i, .ty "int", _, _, true, rfl, .ty _, .base (.int i), kit_ty (by decide +kernel), true, rfl, iteT ?_⟩
    refine ⟨.int i, rfl, .int i, .ty "bool", _, _, false, rfl, .ty _, .base (.int i), kit_ty (by decide +kernel), false, rfl, ?_⟩
    exact q
theorem sc_within : FnScope ["value", "low", "high"] ["value", "low", "high"] (defScope (topS 11)) := ⟨rfl, rfl, rfl, by decide +kernel, rfl, by decide +kernel, by decide +kernel⟩
def spWithin : Sp := fun vs H Q _ => ∃ i lo hi, vs = [.int i, .int lo, .int hi] ∧ lo ≤ i ∧ i ≤ hi ∧ Q (.bl true) H
theorem ok_within (D : Dv K mg "within" (topS 11) ["value", "low", "high"]) (G : Glob mg) (c_whole : Ca P w K mg base 1 "whole" spWhole) : Ca P w K mg base 2 "within" spWithin := by
  refine dv_ok D sc_within (fun vs H Q E h => ?_) (fun f cdv A outer s H vs Q E hr h => ?_)
  · obtain ⟨i, lo, hi, rfl, _⟩ := h
    rfl
  · obtain ⟨i, lo, hi, rfl, h1, h2, q⟩ := h
    refine ⟨_, (pss_one (ps_ret (pe_and (C8.pe_c c_whole hr (by decide) rfl (pa_cons (pv 0) pa_nil)) (pe_one (pe_chain op_le op_le (pv 1) (pv 0) (pv 2)))))), ?_⟩
    refine ⟨.int i, rfl, i, rfl, true, rfl, iteT ?_⟩
    refine ⟨.int lo, rfl, .int i, rfl, lo, i, rfl, rfl, _, rfl, ?_⟩
    rw [decide_eq_true h1]
    refine iteT ⟨.int hi, rfl, i, hi, rfl, rfl, ?_⟩
    show Q (.bl (decide (i ≤ hi))) H
    rw [decide_eq_true h2]
    exact q
theorem sc_need_number : FnScope ["value", "low", "high"] ["value", "low", "high"] (defScope (topS 12)) := ⟨rfl, rfl, rfl, by decide +kernel, rfl, by decide +kernel, by decide +kernel⟩
def spNeedNumber : Sp := fun vs H Q _ => ∃ i lo hi, vs = [.int i, .int lo, .int hi] ∧ lo ≤ i ∧ i ≤ hi ∧ Q .non H
theorem ok_need_number (D : Dv K mg "need_number" (topS 12) ["value", "low", "high"]) (G : Glob mg) (c_within : Ca P w K mg base 2 "within" spWithin) : Ca P w K mg base 3 "need_number" spNeedNumber := by
  refine dv_ok D sc_need_number (fun vs H Q E h => ?_) (fun f cdv A outer s H vs Q E hr h => ?_)
  · obtain ⟨i, lo, hi, rfl, _⟩ := h
    rfl
  · obtain ⟨i, lo, hi, rfl, h1, h2, q⟩ := h
    refine ⟨_, (pss_one (ps_if (pt_not (pt_val (C8.pe_c c_within hr (by decide) rfl (pa_cons (pv 0) (pa_cons (pv 1) (pa_cons (pv 2) pa_nil)))))) (pss_one ps_never) pss_nil)), ?_⟩
    refine ⟨.int i, rfl, .int lo, rfl, .int hi, rfl, i, lo, hi, rfl, h1, h2, true, rfl, ?_⟩
    exact iteF q
theorem sc_tuple_of : FnScope ["value", "low", "high"] ["value", "low", "high"] (defScope (topS 13)) := ⟨rfl, rfl, rfl, by decide +kernel, rfl, by decide +kernel, by decide +kernel⟩
def spTupleOf : Sp := fun vs H Q _ => ∃ p xs lo hi, vs = [.ref p, .int lo, .int hi] ∧ Rd H p (.tup xs) ∧ lo ≤ (xs.length : Int) ∧ (xs.length : Int) ≤ hi ∧ Q (.bl true) H
theorem ok_tuple_of (D : Dv K mg "tuple_of" (topS 13) ["value", "low", "high"]) (G : Glob mg) : Ca P w K mg base 1 "tuple_of" spTupleOf := by
  refine dv_ok D sc_tuple_of (fun vs H Q E h => ?_) (fun f cdv A outer s H vs Q E hr h => ?_)
  · obtain ⟨p, xs, lo, hi, rfl, _⟩ := h
    rfl
  · obtain ⟨p, xs, lo, hi, rfl, hp, h1, h2, q⟩ := h
    refine ⟨_, (pss_one (ps_ret (pe_and (pe_callB call_isi (by rfl) G.isinstance_ (by decide +kernel) (pa_cons (pv 0) (pa_cons (pe_bltn (v := .ty "tuple") (by rfl) G.tuple_ (by decide +kernel) rfl) pa_nil))) (pe_one (pe_chain op_le op_le (pv 1) (pe_callB call_len_seq (by rfl) G.len_ (by decide +kernel) (pa_cons (pv 0) pa_nil)) (pv 2)))))), ?_⟩
    refine ⟨.ref p, rfl, .ref p, .ty "tuple", _, _, true, rfl, .ty _, tyx_tup hp, kit_ty (by decide +kernel), true, rfl, iteT ?_⟩
    refine ⟨.int lo, rfl, .ref p, rfl, p, xs, rfl, .inr (.inl hp), lo, _, rfl, rfl, _, rfl, ?_⟩
    rw [decide_eq_true h1]
    refine iteT ⟨.int hi, rfl, _, hi, rfl, rfl, ?_⟩
    show Q (.bl (decide ((xs.length : Int) ≤ hi))) H
    rw [decide_eq_true h2]
    exact q
theorem sc_is_rod : FnScope ["many", "value", "told"] ["many", "value"] (defScope (topS 14)) := ⟨rfl, rfl, rfl, by decide +kernel, rfl, by decide +kernel, by decide +kernel⟩
def spIsRod : Sp := fun vs H Q _ => ∃ (n : Int) (v : V) (a b l : Int), vs = [.int n, v] ∧ (∃ p, v = .ref p ∧ H p = some (.tup [.int a, .int b, .int l])) ∧ 0 ≤ a ∧ a < b ∧ b < n ∧ 1 ≤ l ∧ l ≤ 9 ∧ ∀ H', Ex H H' → Q (.bl true) H'
theorem ok_is_rod (D : Dv K mg "is_rod" (topS 14) ["many", "value"]) (G : Glob mg) (c_tuple_of : Ca P w K mg base 1 "tuple_of" spTupleOf) (c_whole : Ca P w K mg base 1 "whole" spWhole) : Ca P w K mg base 2 "is_rod" spIsRod := by
  refine dv_ok D sc_is_rod (fun vs H Q E h => ?_) (fun f cdv A outer s H vs Q E hr h => ?_)
  · obtain ⟨n, v, a, b, l, rfl, _⟩ := h
    rfl
  · obtain ⟨n, v, a, b, l, rfl, ⟨p, rfl, hp⟩, h1, h2, h3, h4, h5, q⟩ := h
    refine ⟨_, (pss_cons (ps_if (PW.pt (pw_or (pt_not (pt_val (C8.pe_c c_tuple_of hr (by decide) rfl (pa_cons (pv 1) (pa_cons pe_int (pa_cons pe_int pa_nil)))))) (pw_or1 (pt_not (pt_val (pe_callB (cr_all rfl) (by rfl) G.all_ (by decide +kernel) (pa_cons (pe_lc (own := [("told", 2)]) (g := (gName 2)) (tt := tYes) rfl sc_is_rod.nd (pi_tup (pv 1)) (blkOk_by (own := [("told", 2)]) (N := ["many", "value", "told"]) (sc := (defScope (topS 14))) (by decide +kernel)) (fun _ _ _ _ _ => (pg_name (i := 2) sc_is_rod.nd rfl (Or.inl rfl))) (fun _ _ _ _ _ => pts_nil) (fun _ _ _ _ _ => (C8.pe_c c_whole hr (by decide) rfl (pa_cons (pv 2) pa_nil)))) pa_nil))))))) (pss_one (ps_ret pe_bl)) pss_nil)
      (pss_one (ps_ret (pe_and (pe_chain3 op_le op_lt op_lt pe_int (pe_ix ix_tup (pv 1) pe_int (fun _ _ => rfl)) (pe_ix ix_tup (pv 1) pe_int (fun _ _ => rfl)) (pv 0)) (pe_one (pe_chain op_le op_le pe_int (pe_ix ix_tup (pv 1) pe_int (fun _ _ => rfl)) (C8.pe_gc rfl G.MOST_LENGTH))))))), ?_⟩
    have v1 : Ev (tVar 1) (start ["many", "value", "told"] [.int n, .ref p]) H (.ref p) := ev_var rfl
    have hc : EvL (tLc (iTup K (tVar 1)) (gName 2) tYes (tCall spWhole [] E0 (tCons (tVar 2) tNil)) [2]) (start ["many", "value", "told"] [.int n, .ref p]) H [.bl true, .bl true, .bl true] :=
      el_lcW (walks_tup v1 (st_of hp)) (by show 3 ≤ 40000; omega) (fun i x => [some (.int n), some (.ref p), some x]) (fun i x H1 e hx Q q => q) (fun _ _ _ => rfl) (fun _ => true) (fun _ => .bl true) (fun _ _ _ _ _ => et_yes)
        (fun i x H1 e hx _ => ev_call (ea_cons (ev_var rfl) ea_nil) fun H2 e2 Q q E => by
          have : ∃ z, x = .int z := by
            rcases i with _ | _ | _ | i
            · exact ⟨a, (Option.some.inj hx).symm⟩
            · exact ⟨b, (Option.some.inj hx).symm⟩
            · exact ⟨l, (Option.some.inj hx).symm⟩
            · simp at hx
          obtain ⟨z, rfl⟩ := this
          exact ⟨z, rfl, q H2 (Ex.refl _)⟩)
    refine q_when (b := false) (et_or (a := false) (et_not (a := true) (et_B (ev_call (ea_cons v1 (ea_cons ev_c (ea_cons ev_c ea_nil))) fun H1 e Q q E => ⟨p, _, 3, 3, rfl, .inl (e _ _ hp), Int.le_refl _, Int.le_refl _, q H1 (Ex.refl _)⟩))) fun _ => et_not (a := true) (et_B (ev_all (bs := [true, true, true]) hc))) (fun z => nomatch z) fun _ H1 e1 => ?_
    have hp1 := e1 _ _ hp
    have at1 : ∀ {j : Nat} {x : V}, ([.int a, .int b, .int l] : List V)[j]? = some x → Ev (tOp (rIxT K) (tVar 1) (tC (.int (j : Nat)))) (start ["many", "value", "told"] [.int n, .ref p]) H1 x := fun hx => ev_op (ev_var rfl) ev_c (rv_ixT (st_of hp1) (at_of hx))
    refine ⟨.ref p, rfl, p, _, 0, _, rfl, rfl, st_of hp1, at_of (j := 0) rfl, 0, a, rfl, rfl, _, rfl, ?_⟩
    rw [decide_eq_true h1]
    refine iteT ⟨.ref p, rfl, p, _, 1, _, rfl, rfl, st_of hp1, at_of (j := 1) rfl, a, b, rfl, rfl, _, rfl, ?_⟩
    rw [decide_eq_true h2]
    refine iteT ⟨.int n, rfl, b, n, rfl, rfl, ?_⟩
    refine ⟨_, rfl, ?_⟩
    rw [decide_eq_true h3]
    refine iteT ⟨.ref p, rfl, p, _, 2, _, rfl, rfl, st_of hp1, at_of (j := 2) rfl, 1, l, rfl, rfl, _, rfl, ?_⟩
    rw [decide_eq_true h4]
    refine iteT ⟨l, 9, rfl, rfl, ?_⟩
    show Q (.bl (decide (l ≤ 9))) H1
    rw [decide_eq_true h5]
    exact q H1 e1
end
end K8
/-! Words for the walk: enumerate, slices of tuples, a new tuple walked, lists of places. -/
namespace K8
open PySem PySem.Spec PyProof.Rows L2 Evl
section
variable {K : PySem.W.Frag} {σ : L2.St} {H H' : Hp} {ta tb te tc : TE} {t u : TT} {x y z v : V} {xs ys : List V} {a : Addr} {D : Ends} {tu tz : TS} {g : TG}
theorem eu_sl {tl th : TO} {lo hi : Option Int} (h : Ev te σ H (.ref a)) (h1 : EvO tl σ H lo) (h2 : EvO th σ H hi) (hs : SqT K H a xs) (hw : ¬ (HT.sIx xs.length 0 lo = 0 ∧ HT.sIx xs.length xs.length hi = xs.length)) : EvU (tSl (rSlT K) te tl th) σ H (cutV xs lo hi) := fun H1 e Q q =>
  h H1 e _ fun H2 e2 => h1 H2 (e.trans e2) _ fun H3 e3 => h2 H3 ((e.trans e2).trans e3) _ fun H4 e4 =>
    ⟨a, xs, rfl, ex_t (((e.trans e2).trans e3).trans e4) hs, hw, fun p hp => q p _ (fresh_back ((e2.trans e3).trans e4) hp) (((e2.trans e3).trans e4).trans (Ex.new hp)) upd_same⟩
theorem s_forE {ta : TA} (h : EvA ta σ H [.ref a]) (hx : SqT K H a xs) (Pv : Nat → L2.St → Hp → Prop) (h0 : ∀ H1, Ex H H1 → Pv 0 σ H1) (hl : ∀ i σ' H', i ≤ xs.length → Pv i σ' H' → SqT K H' a xs)
    (hs : ∀ i x σ' H' T, xs[i]? = some x → Pv i σ' H' → H' T = none → g (.ref T) σ' (upd H' T (.tup [.int (i : Nat), x])) fun σ2 H2 => tu { D with nx := Pv (i + 1), ct := Pv (i + 1), bk := D.nx } σ2 H2) (hd : ∀ σ' H', Pv xs.length σ' H' → D.nx σ' H') : tFor (iEnumT K ta) g tu D σ H :=
  h H (Ex.refl H) _ fun H1 e => ⟨a, xs, rfl, ex_t e hx, for_it walk_enumT Pv (h0 H1 e) hl (fun i y σ' H' H2 hi p yy => by
    obtain ⟨T, x1, x2, rfl, hT, rfl, e1, e2⟩ := yy
    cases e1
    exact hs i x2 σ' H' T e2 p hT) hd⟩
theorem q_forE {ta : TA} (h : EvA ta σ H [.ref a]) (hx : SqT K H a xs) (Pv : Nat → L2.St → Hp → Prop) (h0 : ∀ H1, Ex H H1 → Pv 0 σ H1) (hl : ∀ i σ' H', i ≤ xs.length → Pv i σ' H' → SqT K H' a xs)
    (hs : ∀ i x σ' H' T, xs[i]? = some x → Pv i σ' H' → H' T = none → g (.ref T) σ' (upd H' T (.tup [.int (i : Nat), x])) fun σ2 H2 => tu { D with nx := Pv (i + 1), ct := Pv (i + 1), bk := tz D } σ2 H2) (hd : ∀ σ' H', Pv xs.length σ' H' → tz D σ' H') : tSeq (tFor (iEnumT K ta) g tu) tz D σ H :=
  s_forE (D := { D with nx := tz D }) h hx Pv h0 hl hs hd
/-- over a new tuple -/
theorem s_forNT {tl : TE} (h : EvU tl σ H xs) (Pv : Addr → Nat → L2.St → Hp → Prop) (h0 : ∀ p H1, H p = none → Ex H H1 → H1 p = some (.tup xs) → Pv p 0 σ H1) (hl : ∀ p i σ' H', i ≤ xs.length → Pv p i σ' H' → SqT K H' p xs)
    (hs : ∀ p i x σ' H', xs[i]? = some x → Pv p i σ' H' → g x σ' H' fun σ2 H2 => tu { D with nx := Pv p (i + 1), ct := Pv p (i + 1), bk := D.nx } σ2 H2) (hd : ∀ p σ' H', Pv p xs.length σ' H' → D.nx σ' H') : tFor (iTup K tl) g tu D σ H :=
  h H (Ex.refl H) _ fun p H1 hp e h1 => ⟨p, rfl, ⟨xs, st_of h1⟩, for_tup (Pv p) (h0 p H1 hp e h1) (hl p) (hs p) (hd p)⟩
end
section
variable {σ : L2.St} {H : Hp} {te : TE} {D : Ends} {tz : TS} {os : List HO} {i : Nat}
theorem s_asgLs (h : EvLs te σ H os) (k : ∀ p ys H1, H p = none → Ex H H1 → H1 p = some (.lst ys) → Paired (NewO H H1) os ys → D.nx (σ.set i (some (.ref p))) H1) : tAsg te (gName i) D σ H := h H (Ex.refl H) _ k
theorem q_asgLs (h : EvLs te σ H os) (k : ∀ p ys H1, H p = none → Ex H H1 → H1 p = some (.lst ys) → Paired (NewO H H1) os ys → tz D (σ.set i (some (.ref p))) H1) : tSeq (tAsg te (gName i)) tz D σ H := s_asgLs (D := { D with nx := tz D }) h k
theorem s_asgP {P : Hp → V → Prop} (h : EvP te σ H P) (k : ∀ v H1, Ex H H1 → P H1 v → D.nx (σ.set i (some v)) H1) : tAsg te (gName i) D σ H := h H (Ex.refl H) _ k
theorem q_asgP {P : Hp → V → Prop} (h : EvP te σ H P) (k : ∀ v H1, Ex H H1 → P H1 v → tz D (σ.set i (some v)) H1) : tSeq (tAsg te (gName i)) tz D σ H := s_asgP (D := { D with nx := tz D }) h k
theorem s_retP {P : Hp → V → Prop} (h : EvP te σ H P) (k : ∀ v H1, Ex H H1 → P H1 v → D.rt v H1) : tRet te D σ H := h H (Ex.refl H) _ k
end
section
variable {σ : L2.St} {H : Hp} {te : TE} {tr ta : TA} {D : Ends} {tz : TS} {os : List HO} {i j : Nat} {xs : List V} {v : V} {Q : List V → Hp → Prop}
theorem q_par (h : ta σ H (fun vs H1 => ∃ v w, vs = [v, w] ∧ tz D ((σ.set i (some v)).set j (some w)) H1)) : tSeq (tPar i j ta) tz D σ H := h
theorem c_nil (h : Q [] H) : tNil σ H Q := h
theorem c_cons (h : Ev te σ H v) (k : ∀ H1, Ex H H1 → tr σ H1 fun vs H2 => Q (v :: vs) H2) : tCons te tr σ H Q := h H (Ex.refl H) _ fun H1 e => k H1 e
theorem c_consL (h : EvL te σ H xs) (k : ∀ p H1, H p = none → Ex H H1 → H1 p = some (.lst xs) → tr σ H1 fun vs H2 => Q (.ref p :: vs) H2) : tCons te tr σ H Q := h H (Ex.refl H) _ fun p H1 hp e h1 => k p H1 hp e h1
theorem c_consP {P : Hp → V → Prop} (h : EvP te σ H P) (k : ∀ v H1, Ex H H1 → P H1 v → tr σ H1 fun vs H2 => Q (v :: vs) H2) : tCons te tr σ H Q := h H (Ex.refl H) _ fun v H1 e p => k v H1 e p
theorem c_dict (k : ∀ d, H d = none → tr σ (upd H d (.dK [])) fun vs H2 => Q (.ref d :: vs) H2) : tCons tDNewK tr σ H Q := k
end
section
variable {X : Cx} (K : PySem.W.Frag)
/-! the rules that name the written part, said with its own name: within a block -/
theorem ix_listK (h : X.K = K := by rfl) : IxR X (rIxL K) := h ▸ ix_list
theorem ix_tupK (h : X.K = K := by rfl) : IxR X (rIxT K) := h ▸ ix_tup
theorem op_in_seqK (h : X.K = K := by rfl) : OpR X (compareOp .In) (rIn K false) := h ▸ op_in_seq
theorem op_notIn_seqK (h : X.K = K := by rfl) : OpR X (compareOp .NotIn) (rIn K true) := h ▸ op_notIn_seq
theorem cr_maxK (hc : X.calm = true) (h : X.K = K := by rfl) : CallR X (.builtin "max") (rMax K) := h ▸ cr_max hc
theorem cr_minK (hc : X.calm = true) (h : X.K = K := by rfl) : CallR X (.builtin "min") (rMin K) := h ▸ cr_min hc
theorem cr_anyK (hc : X.calm = true) (h : X.K = K := by rfl) : CallR X (.builtin "any") (rAny K) := h ▸ cr_any hc
theorem cr_allK (hc : X.calm = true) (h : X.K = K := by rfl) : CallR X (.builtin "all") (rAll K) := h ▸ cr_all hc
theorem op_catAK (h : X.K = K := by rfl) : OpR X (binaryOp .Add) (rCatA K) := h ▸ op_catA
theorem pi_tupK {tg l : Expr} {tl : TE} (hl : PE X l tl) (h : X.K = K := by rfl) : PI X tg l (iTup K tl) := h ▸ pi_tup hl
theorem pi_listK {tg l : Expr} {tl : TE} (hl : PE X l tl) (h : X.K = K := by rfl) : PI X tg l (iList K tl) := h ▸ pi_list hl
theorem call_len_seqK (h : X.K = K := by rfl) : CallR X (.builtin "len") (fun xs H Q => ∃ p ys, xs = [.ref p] ∧ (SqL K H p ys ∨ SqT K H p ys) ∧ Q (.int ys.length) H) := h ▸ call_len_seq
end
/-- lists of places that hold all below n are that long -/
theorem len_all : ∀ (n : Nat) (S : List Nat), (∀ p, p < n → p ∈ S) → n ≤ S.length
  | 0, _, _ => Nat.zero_le _
  | n + 1, S, h => by
    have hn := h n (Nat.lt_succ_self n)
    have ih := len_all n (S.erase n) fun p hp => (List.mem_erase_of_ne (by omega)).mpr (h p (by omega))
    rw [List.length_erase_of_mem hn] at ih
    have : 0 < S.length := List.length_pos_of_mem hn
    omega
theorem lex_less {a b a' b' : Int} (h : a < a' ∨ (a = a' ∧ b < b')) : Ob.lexAt (fun j => decide (([a', b'] : List Int).getD j 0 = ([a, b] : List Int).getD j 0)) (fun j => decide (([a', b'] : List Int).getD j 0 ≤ ([a, b] : List Int).getD j 0)) (decide (2 ≤ 2)) 0 2 = false := by
  rw [Ob.lexAt_succ, Ob.lexAt_succ]
  show (if decide (a' = a) = true then (if decide (b' = b) = true then _ else decide (b' ≤ b)) else decide (a' ≤ a)) = false
  rcases h with h | ⟨rfl, h⟩
  · rw [if_neg (by simp; omega)]
    simp
    omega
  · rw [if_pos (by simp), if_neg (by simp; omega)]
    simp
    omega
theorem sz_of2 {n : Nat} (h : n ≤ 40000) : n ≤ 100000 := by omega
end K8
/-! Words for the walk: comprehensions over tops and over places; calls that hand back what is told. -/
namespace K8
open PySem PySem.Spec PyProof.Rows L2 Evl
theorem top_at {H : Hp} {tops : List Top} {vs : List V} {i : Nat} {x : V} (h : Paired (PairP H) tops vs) (hx : vs[i]? = some x) : ∃ t p, tops[i]? = some t ∧ x = .ref p ∧ H p = some (.tup [.int (t.1 : Nat), .int t.2]) := by
  obtain ⟨t, ht, p, e, hp⟩ := pr_get h hx
  exact ⟨t, p, ht, e, hp⟩
def rIsNo : R2 := fun x y H Q => y = .non ∧ Q (.bl (decide (x = .non))) H
def rNotNo : R2 := fun x y H Q => y = .non ∧ Q (.bl (!decide (x = .non))) H
section
variable {K : PySem.W.Frag} {σ : L2.St} {H H' : Hp} {ta : TA} {t1 t2 te tl : TE} {tt : TT} {wi : TI} {vs : List Nat} {i j : Nat} {q : Addr} {ws xs : List V} {tops : List Top} {l : List Nat}
theorem pair_getD {t : Top} {k : Nat} (h : tops[k]? = some t) : tops.getD k (0, 0) = t := by
  rw [List.getD_eq_getElem?_getD, h]
  rfl
theorem el_pairs (hv : Ev tl σ H (.ref q)) (hq : Rd H q (.tup ws)) (hw : Paired (PairP H) tops ws) (hz : tops.length ≤ 40000) (hwp : ∀ a b, wipe (((wipe σ vs).set i (some a)).set j (some b)) vs = wipe σ vs) (f : Top → Bool) (v : Top → V)
    (ht : ∀ t ∈ tops, ∀ H1, Ex H H1 → EvT tt (((wipe σ vs).set i (some (.int (t.1 : Nat)))).set j (some (.int t.2))) H1 (f t)) (he : ∀ t ∈ tops, ∀ H1, Ex H H1 → f t = true → Ev te (((wipe σ vs).set i (some (.int (t.1 : Nat)))).set j (some (.int t.2))) H1 (v t)) :
    EvL (tLc (iTup K tl) (gTup K 2 (gCons (gName i) (gCons (gName j) gNil))) tt te vs) σ H ((tops.filter f).map v) := by
  have hl := pr_len hw
  have h := el_lcW (walks_tup (K := K) hv (.inl hq)) (by omega) (g := gTup K 2 (gCons (gName i) (gCons (gName j) gNil))) (vs := vs) (t := tt) (te := te) (fun k y => ((wipe σ vs).set i (some (.int ((tops.getD k (0, 0)).1 : Nat)))).set j (some (.int (tops.getD k (0, 0)).2)))
    (fun k y H1 e hy Q qq => by
      obtain ⟨t, r, ht, rfl, hr⟩ := top_at hw hy
      refine g_two (e _ _ hr) ?_
      rw [pair_getD ht] at qq
      exact qq) (fun _ _ _ => hwp _ _) (fun k => f (tops.getD k (0, 0))) (fun k => v (tops.getD k (0, 0)))
    (fun k y H1 e hy => by
      obtain ⟨t, r, ht', rfl, hr⟩ := top_at hw hy
      simp only [pair_getD ht']
      exact ht t (List.mem_of_getElem? ht') H1 e)
    (fun k y H1 e hy hf => by
      obtain ⟨t, r, ht', rfl, hr⟩ := top_at hw hy
      simp only [pair_getD ht'] at hf ⊢
      exact he t (List.mem_of_getElem? ht') H1 e hf)
  unfold given at h
  rw [← hl, range_filter_get (0, 0) f v] at h
  exact h
/-- .. new objects of them -/
theorem els_pairs (hv : Ev tl σ H (.ref q)) (hq : Rd H q (.tup ws)) (hw : Paired (PairP H) tops ws) (hz : tops.length ≤ 40000) (hwp : ∀ a b, wipe (((wipe σ vs).set i (some a)).set j (some b)) vs = wipe σ vs) (f : Top → Bool) (o : Top → HO)
    (ht : ∀ t ∈ tops, ∀ H1, Ex H H1 → EvT tt (((wipe σ vs).set i (some (.int (t.1 : Nat)))).set j (some (.int t.2))) H1 (f t)) (he : ∀ t ∈ tops, ∀ H1, Ex H H1 → f t = true → EvN te (((wipe σ vs).set i (some (.int (t.1 : Nat)))).set j (some (.int t.2))) H1 (o t)) :
    EvLs (tLc (iTup K tl) (gTup K 2 (gCons (gName i) (gCons (gName j) gNil))) tt te vs) σ H ((tops.filter f).map o) := by
  have hl := pr_len hw
  have h := els_lcW (walks_tup (K := K) hv (.inl hq)) (by omega) (g := gTup K 2 (gCons (gName i) (gCons (gName j) gNil))) (vs := vs) (t := tt) (te := te) (fun k y => ((wipe σ vs).set i (some (.int ((tops.getD k (0, 0)).1 : Nat)))).set j (some (.int (tops.getD k (0, 0)).2)))
    (fun k y H1 e hy Q qq => by
      obtain ⟨t, r, ht, rfl, hr⟩ := top_at hw hy
      refine g_two (e _ _ hr) ?_
      rw [pair_getD ht] at qq
      exact qq) (fun _ _ _ => hwp _ _) (fun k => f (tops.getD k (0, 0))) (fun k => o (tops.getD k (0, 0)))
    (fun k y H1 e hy => by
      obtain ⟨t, r, ht', rfl, hr⟩ := top_at hw hy
      simp only [pair_getD ht']
      exact ht t (List.mem_of_getElem? ht') H1 e)
    (fun k y H1 e hy hf => by
      obtain ⟨t, r, ht', rfl, hr⟩ := top_at hw hy
      simp only [pair_getD ht'] at hf ⊢
      exact he t (List.mem_of_getElem? ht') H1 e hf)
  rw [← hl, range_filter_get (0, 0) f o] at h
  exact h
/-- over places that are walked -/
theorem nat_at {k : Nat} {y : V} (h : (l.map fun p : Nat => V.int p)[k]? = some y) : ∃ p, l[k]? = some p ∧ y = .int (p : Nat) := by
  rw [List.getElem?_map] at h
  cases e : l[k]? with
  | none =>
    rw [e] at h
    cases h
  | some p =>
    rw [e] at h
    exact ⟨p, rfl, (Option.some.inj h).symm⟩
theorem el_nats (hW : Walks wi σ H (l.map fun p : Nat => V.int p)) (hz : l.length ≤ 40000) (hwp : ∀ a, wipe ((wipe σ vs).set i (some a)) vs = wipe σ vs) (f : Nat → Bool) (v : Nat → V)
    (ht : ∀ p ∈ l, ∀ H1, Ex H H1 → EvT tt ((wipe σ vs).set i (some (.int (p : Nat)))) H1 (f p)) (he : ∀ p ∈ l, ∀ H1, Ex H H1 → f p = true → Ev te ((wipe σ vs).set i (some (.int (p : Nat)))) H1 (v p)) :
    EvL (tLc wi (gName i) tt te vs) σ H ((l.filter f).map v) := by
  have h := el_lcW hW (by rw [List.length_map]; exact hz) (g := gName i) (vs := vs) (t := tt) (te := te) (fun k y => (wipe σ vs).set i (some y)) (fun k y H1 e hy Q qq => qq) (fun _ _ _ => hwp _) (fun k => f (l.getD k 0)) (fun k => v (l.getD k 0))
    (fun k y H1 e hy => by
      obtain ⟨p, hp, rfl⟩ := nat_at hy
      rw [show l.getD k 0 = p by rw [List.getD_eq_getElem?_getD, hp]; rfl]
      exact ht p (List.mem_of_getElem? hp) H1 e)
    (fun k y H1 e hy hf => by
      obtain ⟨p, hp, rfl⟩ := nat_at hy
      rw [show l.getD k 0 = p by rw [List.getD_eq_getElem?_getD, hp]; rfl] at hf ⊢
      exact he p (List.mem_of_getElem? hp) H1 e hf)
  unfold given at h
  rw [List.length_map, range_filter_get 0 f v] at h
  exact h
theorem els_nats (hW : Walks wi σ H (l.map fun p : Nat => V.int p)) (hz : l.length ≤ 40000) (hwp : ∀ a, wipe ((wipe σ vs).set i (some a)) vs = wipe σ vs) (f : Nat → Bool) (o : Nat → HO)
    (ht : ∀ p ∈ l, ∀ H1, Ex H H1 → EvT tt ((wipe σ vs).set i (some (.int (p : Nat)))) H1 (f p)) (he : ∀ p ∈ l, ∀ H1, Ex H H1 → f p = true → EvN te ((wipe σ vs).set i (some (.int (p : Nat)))) H1 (o p)) :
    EvLs (tLc wi (gName i) tt te vs) σ H ((l.filter f).map o) := by
  have h := els_lcW hW (by rw [List.length_map]; exact hz) (g := gName i) (vs := vs) (t := tt) (te := te) (fun k y => (wipe σ vs).set i (some y)) (fun k y H1 e hy Q qq => qq) (fun _ _ _ => hwp _) (fun k => f (l.getD k 0)) (fun k => o (l.getD k 0))
    (fun k y H1 e hy => by
      obtain ⟨p, hp, rfl⟩ := nat_at hy
      rw [show l.getD k 0 = p by rw [List.getD_eq_getElem?_getD, hp]; rfl]
      exact ht p (List.mem_of_getElem? hp) H1 e)
    (fun k y H1 e hy hf => by
      obtain ⟨p, hp, rfl⟩ := nat_at hy
      rw [show l.getD k 0 = p by rw [List.getD_eq_getElem?_getD, hp]; rfl] at hf ⊢
      exact he p (List.mem_of_getElem? hp) H1 e hf)
  rw [List.length_map, range_filter_get 0 f o] at h
  exact h
theorem walks_rngN {n : Nat} (h : EvA ta σ H [.int (n : Nat)]) (hn : n ≤ 40000) : Walks (iRng1 ta) σ H ((List.range n).map fun p : Nat => V.int p) := by
  have := walks_rng h (by omega)
  rw [show ((n : Nat) : Int).toNat = n by omega] at this
  have e : rngV 0 n = (List.range n).map fun p : Nat => V.int p := by
    unfold rngV
    refine List.map_congr_left fun p _ => ?_
    rw [Int.zero_add]
  rw [e] at this
  exact this
/-! calls -/
theorem evp_call {sp : Sp} {dvs us : List V} {E : XK} {P : Hp → V → Prop} (h : EvA ta σ H us) (hs : ∀ H1, Ex H H1 → ∀ Q : VK, (∀ v H2, Ex H1 H2 → P H2 v → Q v H2) → ∀ E : XK, sp (us ++ dvs) H1 Q E) : EvP (tCall sp dvs E ta) σ H P := fun H1 e Q q =>
  h H1 e _ fun H2 e2 => hs H2 (e.trans e2) Q (fun v H3 e3 p => q v H3 (e2.trans e3) p) E
theorem evp_call2 {sp : Sp} {E : XK} {P1 P : Hp → V → Prop} {v2 : V} (h1 : EvP t1 σ H P1) (hm : ∀ H1 H2 v, Ex H1 H2 → P1 H1 v → P1 H2 v) (h2 : Ev t2 σ H v2) (hs : ∀ v1 H1, Ex H H1 → P1 H1 v1 → ∀ Q : VK, (∀ v H2, Ex H1 H2 → P H2 v → Q v H2) → ∀ E : XK, sp [v1, v2] H1 Q E) : EvP (tCall sp [] E (tCons t1 (tCons t2 tNil))) σ H P := fun H1 e Q q =>
  h1 H1 e _ fun v1 H2 e2 p1 => h2 H2 (e.trans e2) _ fun H3 e3 => hs v1 H3 ((e.trans e2).trans e3) (hm _ _ _ e3 p1) Q (fun v H4 e4 p => q v H4 ((e2.trans e3).trans e4) p) E
theorem et_isN {P : Hp → V → Prop} {b : Bool} (h : EvP te σ H P) (hb : ∀ H1 v, Ex H H1 → P H1 v → decide (v = V.non) = b) : EvT (tTest (tOp (fun x y H Q => y = .non ∧ Q (.bl (decide (x = .non))) H) te (tC .non))) σ H b := fun H1 e Q q =>
  h H1 e _ fun v H2 e2 p => ⟨rfl, _, rfl, by
    rw [hb H2 v (e.trans e2) p]
    exact q H2 e2⟩
theorem et_notN {P : Hp → V → Prop} {b : Bool} (h : EvP te σ H P) (hb : ∀ H1 v, Ex H H1 → P H1 v → (!decide (v = V.non)) = b) : EvT (tTest (tOp (fun x y H Q => y = .non ∧ Q (.bl (!decide (x = .non))) H) te (tC .non))) σ H b := fun H1 e Q q =>
  h H1 e _ fun v H2 e2 p => ⟨rfl, _, rfl, by
    rw [hb H2 v (e.trans e2) p]
    exact q H2 e2⟩
/-- reading a dict of numbers -/
theorem ev_dget {td ty : TE} {d : Addr} {kvs : List (Key × V)} {k : Int} {v : V} (h1 : Ev td σ H (.ref d)) (h2 : Ev ty σ H (.int k)) (hd : Rd H d (.dK kvs)) (hv : valV kvs (Sum.inl k) = some v) : Ev (tDGet td ty) σ H v := fun H1 e Q q =>
  h1 H1 e _ fun H2 e2 => h2 H2 (e.trans e2) _ fun H3 e3 => ⟨d, v, rfl, .inl ⟨kvs, Sum.inl k, ex_rd ((e.trans e2).trans e3) hd, rfl, hv.symm⟩, q H3 (e2.trans e3)⟩
/-- sorted(a dict of numbers), its keys rising -/
theorem el_sortedD {td : TE} {d : Addr} {kvs : List (Key × V)} {ks : List Int} (h1 : Ev td σ H (.ref d)) (hd : H d = some (.dK kvs)) (hk : kvs.map (·.1) = ks.map Sum.inl) (hz : ks.length < 64) (hr : ks.Pairwise (· < ·)) :
    EvL (tCB (fun xs H Q => ∃ (a : Addr) (kvs : List (Key × V)) (ks : List Int), xs = [.ref a] ∧ Rd H a (.dK kvs) ∧ kvs.map (·.1) = ks.map Sum.inl ∧ ks.length < 64 ∧ ∀ (ys : List Int) (p : Addr), ys.Perm ks → ys.Pairwise (· ≤ ·) → H p = none → Q (.ref p) (upd H p (.lst (ys.map V.int)))) (tCons td tNil)) σ H (ks.map V.int) := fun H1 e Q q =>
  h1 H1 e _ fun H2 e2 => ⟨d, kvs, ks, rfl, .inl (e2 _ _ (e _ _ hd)), hk, hz, fun ys p hp hs hn => by
    have hnd : ks.Nodup := hr.imp fun h => Int.ne_of_lt h
    have hys : ys.Nodup := hp.nodup_iff.mpr hnd
    have hlt : ys.Pairwise (· < ·) := (hs.and hys).imp fun h => by
      have h1 := h.1
      have h2 := h.2
      omega
    have : ys = ks := riseI_eq hlt hr fun x => hp.mem_iff
    subst this
    exact q p _ (fresh_back e2 hn) (e2.trans (Ex.new hn)) upd_same⟩
/-- a list and a new list, one behind the other -/
theorem el_cat {ys : List V} (h1 : EvL t1 σ H xs) (h2 : EvL t2 σ H ys) (hz : xs.length + ys.length ≤ 100000) : EvL (tOp rCat t1 t2) σ H (xs ++ ys) := fun H1 e Q q =>
  h1 H1 e _ fun p H2 hp e2 k2 => h2 H2 (e.trans e2) _ fun r H3 hr e3 k3 => ⟨p, r, xs, ys, rfl, rfl, e3 _ _ k2, k3, sz_of hz, fun o ho => q o _ (fresh_back (e2.trans e3) ho) ((e2.trans e3).trans (Ex.new ho)) upd_same⟩
theorem el_cat1 {ys : List V} {r : Addr} (h1 : EvL t1 σ H xs) (h2 : Ev t2 σ H (.ref r)) (hr : H r = some (.lst ys)) (hz : xs.length + ys.length ≤ 100000) : EvL (tOp rCat t1 t2) σ H (xs ++ ys) := fun H1 e Q q =>
  h1 H1 e _ fun p H2 hp e2 k2 => h2 H2 (e.trans e2) _ fun H3 e3 => ⟨p, r, xs, ys, rfl, rfl, e3 _ _ k2, e3 _ _ (e2 _ _ (e _ _ hr)), sz_of hz, fun o ho => q o _ (fresh_back (e2.trans e3) ho) ((e2.trans e3).trans (Ex.new ho)) upd_same⟩
theorem el_cat2 {ys : List V} {r : Addr} (h1 : Ev t1 σ H (.ref r)) (hr : H r = some (.lst xs)) (h2 : EvL t2 σ H ys) (hz : xs.length + ys.length ≤ 100000) : EvL (tOp rCat t1 t2) σ H (xs ++ ys) := fun H1 e Q q =>
  h1 H1 e _ fun H2 e2 => h2 H2 (e.trans e2) _ fun o1 H3 ho1 e3 k3 => ⟨r, o1, xs, ys, rfl, rfl, e3 _ _ (e2 _ _ (e _ _ hr)), k3, sz_of hz, fun o ho => q o _ (fresh_back (e2.trans e3) ho) ((e2.trans e3).trans (Ex.new ho)) upd_same⟩
end
/-- pairs stand where a list changes -/
theorem pair_list {H : Hp} {fa : Addr} {ys zs : List V} {t : Top} {y : V} (h : H fa = some (.lst ys)) (p : PairP H t y) : PairP (upd H fa (.lst zs)) t y := by
  obtain ⟨r, e, hr⟩ := p
  refine ⟨r, e, ?_⟩
  rw [upd_ne (ne_of hr h (by intro z; cases z))]
  exact hr
theorem new_pairs {H1 H2 : Hp} : ∀ {ts : List Top} {ys : List V}, Paired (NewO H1 H2) (ts.map fun t => HO.tup [.int (t.1 : Nat), .int t.2]) ys → Paired (PairP H2) ts ys
  | [], _, h => by
    cases h
    exact .nil
  | t :: ts, _, h => by
    cases h with
    | cons a b =>
      obtain ⟨q, e, _, h2⟩ := a
      exact .cons ⟨q, e, h2⟩ (new_pairs b)
end K8
/-! None in d.values() -/
namespace K8
open PySem PySem.Spec PyProof.Rows L2
section
open Sem (wp)
variable {prog : Program} {w : World} {A : Around} {E : Value → Shared → Prop}
theorem no_contains : typeLookup (.type "dict_values") "__contains__" = pure none := by
  rw [typeLookup_type, builtinLookup_eq_fast]
  kernel_rfl
theorem entry_cit : entryFor table "proto.contains_iter" = some Builtin.«proto.contains_iter» := entryFor_of_fast (by kernel_rfl)
theorem plain_cit : plainId "proto.contains_iter" = true := by decide +kernel
def noneV : Value → Bool
  | .none => true
  | _ => false
theorem eq_noneV {v : Value} (h : v = .none ∨ ∃ i t, v = .int i t) (s : Shared) : SeqAt.EqAt A s v .none (noneV v) := by
  rcases h with rfl | ⟨i, t, rfl⟩
  · exact SeqAt.EqAt.same _
  · exact SeqAt.EqAt.int_none i t
theorem cit_loop {κ : Type} [DecidableEq κ] {knd : KeyKind prog w κ} {it d : Addr} {ep : Nat} {kvs : List (κ × Value)} (hh : A.handled = none) (hne : d ≠ it) (hv : ∀ p ∈ kvs, p.2 = .none ∨ ∃ i t, p.2 = .int i t) {R : Result → Shared → Prop} :
    ∀ (m i : Nat) (s : Shared), kvs.length - i = m → i ≤ kvs.length → s.heap.IsValIter it d i kvs.length ep → s.heap.DictAt knd d kvs ep →
      (∀ h', (∀ b o, b ≠ it → s.heap.get? b = some o → h'.get? b = some o) → R (.ok (.ret (.bool ((kvs.drop i).any fun p => noneV p.2)))) { s with heap := h' }) →
      codeAny (model prog w) A (.builtin "proto.contains_iter" ⟨[.ref it, .none], []⟩) R s := by
  intro m
  induction m with
  | zero =>
    intro i s hm hi hit hd hR
    refine codeAny_builtin entry_cit ?_
    rw [Around.under_plainId plain_cit _]
    have ei : i = kvs.length := by omega
    show wpAny _ A.in1 (pyNext (.ref it) >>= _) _ _ s
    refine wpAny_bind (wpAny_pyNext_values_end (A := A.in1) hh hit hd (by rw [ei]; simp) fun h' hx => ?_)
    refine wpAny_bind (wpAny_rule (wpAny_pure ?_))
    have := hR h' fun b o hb e => hx b o hb e
    rw [ei, List.drop_length] at this
    exact this
  | succ m ih =>
    intro i s hm hi hit hd hR
    refine codeAny_builtin entry_cit ?_
    rw [Around.under_plainId plain_cit _]
    have hlt : i < kvs.length := by omega
    have hx : kvs[i]? = some (kvs[i].1, kvs[i].2) := by rw [List.getElem?_eq_getElem hlt]
    show wpAny _ A.in1 (pyNext (.ref it) >>= _) _ _ s
    refine wpAny_bind (wpAny_pyNext_values_item (A := A.in1) hit hd hx fun h' hit' hs => ?_)
    have hdrop : (kvs.drop i).any (fun p => noneV p.2) = (noneV kvs[i].2 || (kvs.drop (i + 1)).any fun p => noneV p.2) := by
      rw [List.drop_eq_getElem_cons hlt, List.any_cons]
    refine wpAny_bind (eq_noneV (hv _ (List.getElem_mem hlt)) _ prog w _ _ ?_)
    cases hn : noneV kvs[i].2 with
    | true =>
      rw [if_pos rfl]
      refine wpAny_bind (wpAny_rule (wpAny_pure ?_))
      have := hR h' fun b o hb e => (hs.2 b hb).trans e
      rw [hdrop, hn] at this
      exact this
    | false =>
      rw [if_neg Bool.false_ne_true]
      refine wpAny_pure ⟨plainId_quiet plain_cit _, ih (i + 1) { s with heap := h' } (by omega) (by omega) hit' (hd.extBut hs.extBut hne) fun h2 hk => ?_⟩
      have := hR h2 fun b o hb e => hk b o hb ((hs.2 b hb).trans e)
      rw [hdrop, hn, Bool.false_or] at this
      exact this
theorem none_in_vals {κ : Type} [DecidableEq κ] {knd : KeyKind prog w κ} {s : Shared} {v d : Addr} {ep : Nat} {kvs : List (κ × Value)} (hh : A.handled = none) (hview : s.heap.IsValuesView v d) (hd : s.heap.DictAt knd d kvs ep) (hv : ∀ p ∈ kvs, p.2 = .none ∨ ∃ i t, p.2 = .int i t) {Q : Bool → Shared → Prop}
    (hQ : ∀ h', (∀ b o, s.heap.get? b = some o → h'.get? b = some o) → Q (kvs.any fun p => noneV p.2) { s with heap := h' }) : wpAny (model prog w) A (contains (.ref v) .none) Q E s := by
  unfold contains
  refine wpAny_holding ?_
  rw [stdlibNamesSay?_of_typeIs hview.typeIs]
  refine wpAny_bind (wpAny_specialOf hview.typeIs no_contains ?_)
  show wpAny _ A (if (none == some Value.none) = true then _ else _) Q E s
  rw [if_neg (by decide)]
  refine wpAny_bind (wpAny_callSpecialUnlessNone?_none hview.typeIs no_contains ?_)
  refine wpAny_bind (wpAny_rule ?_)
  refine wpAny_bind (wpAny_tryCatch (wpAny_pyIter_values hview hd ?_))
  have hdl : d < s.heap.objs.size := by
    obtain ⟨o, es, ho, _⟩ := hd
    exact Heap.lt_size ho
  refine wpAny_bind (wpAny_runValue (cit_loop (it := s.heap.objs.size) (kvs := kvs) (ep := ep) hh (Nat.ne_of_lt hdl) hv kvs.length 0 { s with heap := s.heap.push _ } (Nat.sub_zero _) (Nat.zero_le _) ⟨_, Heap.get?_push_size _ rfl, rfl, rfl⟩ (hd.keep fun b o e => Heap.get?_push_of_some _ e) fun h' hk => ?_))
  exact wpAny_pure (hQ h' fun b o e => hk b o (Nat.ne_of_lt (Heap.lt_size e)) (Heap.get?_push_of_some _ e))
end
/-- the view d.values() at p -/
def valuesO (p d : Addr) : HO := .ext fun h => h.IsValuesView p d
theorem valuesO_ok {P : Program} {w : World} {H : Hp} {h : Heap} {p d : Addr} (e : h.get? p = some { cls := .type "dict_values", data := .fields #[.ref d] }) : ObjOk P w H h p (valuesO p d) :=
  ⟨⟨_, e, rfl, rfl⟩, ⟨_, e⟩, fun h1 h2 x k => let ⟨o, ho, r⟩ := x; ⟨o, k o ho, r⟩⟩
def rVals : V → List V → Hp → VK → Prop := fun x xs H Q => ∃ (a : Addr) (kvs : List (Key × V)), x = .ref a ∧ xs = [] ∧ H a = some (.dK kvs) ∧ ∀ p, H p = none → Q (.ref p) (upd H p (valuesO p a))
def vNone : V → Bool
  | .non => true
  | _ => false
def rNoneVals : R2 := fun x y H Q => ∃ (p a : Addr) (kvs : List (Key × V)), x = .non ∧ y = .ref p ∧ H p = some (valuesO p a) ∧ H a = some (.dK kvs) ∧ (∀ kv ∈ kvs, kv.2 = .non ∨ ∃ i, kv.2 = .int i) ∧ Q (.bl (kvs.any fun kv => vNone kv.2)) H
section
variable {X : Cx}
theorem mt_values : MtR X "dict.values" rVals := by
  intro pins s σ H x xs v us Q I rx rxs h
  obtain ⟨a, kvs, rfl, rfl, ha, q⟩ := h
  cases rx
  cases rxs
  obtain ⟨z, hd, vs, rel, dd⟩ := dk_of I.hok ha
  have hf : H s.heap.objs.size = none := I.hok.fresh (Nat.le_refl _)
  refine call_meetsIn PySem.F.slot_dict_values dd.typeIs PySem.F.entry_dict_values (PySem.F.args_dict_values_1 _) (meets_dict_values (mixKind X.prog X.w) a hd) ⟨⟨vs, dd⟩, ?_⟩
  exact ⟨.ref s.heap.objs.size, upd H s.heap.objs.size (valuesO s.heap.objs.size a), I.laid (t' := s.toks) (fun b u e => Heap.get?_push_of_some _ e) (Nat.le_refl _) (valuesO_ok (Heap.get?_push_size _ rfl)), rfl, q _ hf⟩
theorem kv_none : ∀ {kvs : List (Key × V)} {vs : List (Key × Value)}, KV kvs vs → (∀ kv ∈ kvs, kv.2 = .non ∨ ∃ i, kv.2 = .int i) → (∀ p ∈ vs, p.2 = .none ∨ ∃ i t, p.2 = .int i t) ∧ (vs.any fun p => noneV p.2) = kvs.any fun kv => vNone kv.2
  | _, _, .nil, _ => ⟨fun p h => by simp at h, rfl⟩
  | _, _, .cons (a := a) (b := b) ⟨_, r⟩ t, h => by
    obtain ⟨q1, q2⟩ := kv_none t fun kv hk => h kv (List.mem_cons_of_mem _ hk)
    rw [List.any_cons, List.any_cons, q2]
    rcases h a (List.mem_cons_self ..) with e | ⟨i, e⟩
    · rw [e] at r
      have e2 : b.2 = Value.none := r
      refine ⟨fun p hp => ?_, by rw [e, e2]; rfl⟩
      rcases List.mem_cons.mp hp with rfl | hp
      · exact .inl e2
      · exact q1 p hp
    · rw [e] at r
      obtain ⟨u, e2⟩ : ∃ u, b.2 = Value.int i u := r
      refine ⟨fun p hp => ?_, by rw [e, e2]; rfl⟩
      rcases List.mem_cons.mp hp with rfl | hp
      · exact .inr ⟨i, u, e2⟩
      · exact q1 p hp
theorem op_noneVals (hc : X.calm = true) : OpR X (compareOp .In) rNoneVals := by
  intro pins s σ H x y v u Q I rx ry h
  obtain ⟨p, a, kvs, rfl, rfl, hp, ha, hv, q⟩ := h
  cases rx
  cases ry
  have view : s.heap.IsValuesView p a := (show ObjOk X.prog X.w H s.heap p (valuesO p a) from I.hok p _ hp).1
  obtain ⟨z, hd, vs, rel, dd⟩ := dk_of I.hok ha
  obtain ⟨o, es, ep, r⟩ := dd
  obtain ⟨n1, n2⟩ := kv_none rel hv
  show wpAny _ _ (contains (.ref p) .none >>= fun b => pure (Value.bool b)) _ _ _
  refine wpAny_bind (none_in_vals (knd := mixKind X.prog X.w) (ep := ep) (I.ok.hd hc) view ⟨o, es, r⟩ n1 fun h' hk => wpAny_pure ?_)
  rw [n2]
  exact ⟨.bl _, H, I.kept (t' := s.toks) hk, rfl, q⟩
end
end K8
/-! tuple(a list), the new tuple known as it lies; dict(a tuple of pairs) -/
namespace K8
open PySem PySem.Spec PyProof.Rows L2
section
variable {X : Cx}
/-- tuple(list): the object itself is handed on -/
theorem call_tupleK : CallR X (.type "tuple") (fun xs H Q => ∃ p ys, xs = [.ref p] ∧ SqL X.K H p ys ∧ ∀ l o, H l = none → o.dict = none → Q (.ref l) (upd H l (.frz o (.tup ys)))) := by
  intro pins s σ H xs us Q I r h
  obtain ⟨p, ys, rfl, hq, q⟩ := h
  obtain ⟨u, rfl, rx⟩ := vals1 r
  cases rx
  obtain ⟨its, rv, pl, hz⟩ := I.list hq
  have hlen := rv.length
  refine call_tuple_list pl.isList (fun h' kp => ?_) (by simp only [List.size_toArray] <;> omega)
  have I1 : Inv X pins σ H { s with heap := h' } := I.kept (t' := s.toks) kp
  have new : ObjOk X.prog X.w (upd H h'.objs.size (.frz { cls := .type "tuple", data := .seq its.toArray } (.tup ys))) (h'.push { cls := .type "tuple", data := .seq its.toArray }) h'.objs.size (.frz { cls := .type "tuple", data := .seq its.toArray } (.tup ys)) :=
    ⟨Heap.get?_push_size _ rfl, hz, its, rv, IsTup.new _ _⟩
  have I2 := I1.laid (t' := s.toks) (fun b o e => Heap.get?_push_of_some _ e) (Nat.le_refl _) new
  exact ⟨.ref h'.objs.size, _, I2, rfl, q _ _ (I1.hok.fresh (Nat.le_refl _)) rfl⟩
theorem key_is {k : Key} {u : Value} (r : RelV (kV k) u) : keyIs k u = true := by
  cases k with
  | inl i =>
    obtain ⟨t, rfl⟩ : ∃ t, u = Value.int i t := r
    exact keyIs_int i t
  | inr x =>
    obtain ⟨t, rfl⟩ : ∃ t, u = Value.str x t := r
    exact keyIs_str x t
def KPair (H : Hp) (v : V) (kv : Key × V) : Prop := ∃ p, v = .ref p ∧ H p = some (.tup [kV kv.1, kv.2])
theorem kpairs {pins : List (Addr × Obj)} {σ : L2.St} {H : Hp} {s : Shared} (I : Inv X pins σ H s) : ∀ {vs : List V} {kvs : List (Key × V)}, Paired (KPair H) vs kvs →
    ∃ (refs : List Addr) (ps : List (Value × Value)) (prs : List (Key × Value)), vs = refs.map V.ref ∧ KV kvs prs ∧ ps.length = refs.length ∧ prs.length = ps.length ∧
      ∀ (j : Nat) k v, ps[j]? = some (k, v) → ∃ b kk, refs[j]? = some b ∧ IsTup s.heap b #[k, v] ∧ prs[j]? = some (kk, v) ∧ keyIs kk k = true
  | _, _, .nil => ⟨[], [], [], rfl, .nil, rfl, rfl, fun j k v e => by simp at e⟩
  | _, _, .cons (a := x) (b := kv) ⟨p, ex, hp⟩ t => by
    obtain ⟨refs, ps, prs, e1, e2, e3, e4, e5⟩ := kpairs I t
    obtain ⟨its, rv, ht, _⟩ := I.tuple (SqT.of hp)
    obtain ⟨u, y, rfl, ru, ry⟩ := vals2 rv
    refine ⟨p :: refs, (u, y) :: ps, (kv.1, y) :: prs, by rw [ex, e1]; rfl, .cons ⟨rfl, ry⟩ e2, by simp [e3], by simp [e4], fun j k v e => ?_⟩
    cases j with
    | zero =>
      cases (Option.some.inj e : (u, y) = (k, v))
      exact ⟨p, kv.1, rfl, ht, rfl, key_is ru⟩
    | succ j =>
      obtain ⟨b, kk, q1, q2, q3, q4⟩ := e5 j k v (by simpa using e)
      exact ⟨b, kk, by simpa using q1, q2, by simpa using q3, q4⟩
/-- dict(t), t a tuple of pairs that is known as it lies -/
theorem call_dictT (hc : X.calm = true) : CallR X (.type "dict") (fun xs H Q => ∃ (a : Addr) (o : Obj) (vs : List V) (kvs : List (Key × V)), xs = [.ref a] ∧ H a = some (.frz o (.tup vs)) ∧ o.dict = none ∧ Paired (KPair H) vs kvs ∧
    ∀ p, H p = none → Q (.ref p) (upd H p (.dK (mergeK [] kvs)))) := by
  intro pins s σ H xs us Q I r q
  obtain ⟨a, o, vs, kvs, rfl, ha, hod, hp, q⟩ := q
  obtain ⟨u, rfl, rx⟩ := vals1 r
  cases rx
  obtain ⟨refs, ps, prs, rfl, rel, hl1, hl2, hps⟩ := kpairs I hp
  obtain ⟨hg, hz, its, rv, o2, ho2, hcls, n, hdat⟩ := I.hok a _ ha
  rw [hg] at ho2
  cases ho2
  have ei := refs_at rv
  subst ei
  rw [List.length_map] at hz
  have gr : ∀ j (b : Addr), refs[j]? = some b → refs.getD j 0 = b := fun j b e => by
    rw [List.getD_eq_getElem?_getD, e]
    rfl
  refine PySem.call_dict_pairs (knd := mixKind X.prog X.w) (kvs := prs) (PairArg.tuple a (refs.map Value.ref).toArray (fun j => refs.getD j 0) ps) (I.ok.hd hc) ⟨⟨o, n, hg, hcls, hod, hdat⟩, ?_, fun j k v e => ?_⟩ ⟨by omega, fun j k v e => ?_⟩ (by omega) fun h' tk hd' hk => ?_
  · simp [hl1]
  · obtain ⟨b, kk, q1, q2, q3, q4⟩ := hps j k v e
    have e2 := gr j b q1
    show _ ∧ PairAt _ (refs.getD j 0) k v
    rw [e2]
    exact ⟨by simp [q1], .inl q2⟩
  · obtain ⟨b, kk, q1, q2, q3, q4⟩ := hps j k v e
    exact ⟨kk, q3, q4⟩
  · have big : (s.heap.objs.size == sysModules) = false := beq_eq_false_iff_ne.mpr (Nat.ne_of_gt I.big)
    have hlen : (mergeK [] kvs).length ≤ sizeLine := by
      refine Nat.le_trans (length_mergeK kvs []) ?_
      rw [List.length_nil, Nat.zero_add, rel.length]
      omega
    exact ⟨.ref s.heap.objs.size, upd H s.heap.objs.size (.dK (mergeK [] kvs)), I.laid (t' := tk) (fun b u e => hk b u (by simp) e) (Nat.le_refl _) (show ObjOk X.prog X.w _ _ _ (.dK (mergeK [] kvs)) from ⟨hlen, big, merged [] prs, KV.merge rel .nil, hd'⟩), rfl, q _ (I.hok.fresh (Nat.le_refl _))⟩
end
end K8
/-! need_net -/
namespace K8
open PySem PySem.Spec PyProof.Rows L2 Evl
theorem rods_len {n : Nat} {rods : List Rod} (N : NetOk n rods) : rods.length ≤ 16 := by
  have h1 : (rods.map fun r => 4 * r.1 + r.2.1).Pairwise (· < ·) := by
    rw [List.pairwise_map]
    refine N.asc.imp_of_mem fun {r s} hr hs h => ?_
    have a := N.rod r hr
    have b := N.rod s hs
    have := N.n4
    omega
  have h2 : ∀ x ∈ rods.map (fun r => 4 * r.1 + r.2.1), x < 16 := fun x hx => by
    obtain ⟨r, hr, rfl⟩ := List.mem_map.mp hx
    have a := N.rod r hr
    have := N.n4
    omega
  have h3 := rise_filter h1 h2
  have h4 := congrArg List.length h3
  have h5 := List.length_filter_le (fun x => decide (x ∈ rods.map fun r => 4 * r.1 + r.2.1)) (List.range 16)
  rw [h4, List.length_range, List.length_map] at h5
  exact h5
theorem cut2 : ¬ (HT.sIx 3 0 none = 0 ∧ HT.sIx 3 3 (some 2) = 3) := by decide
section
variable {P : Program} {w : World} {K : PySem.W.Frag} {mg : Str → Option Value} {base : Heap}
theorem sc_need_net : FnScope ["value", "many", "rods", "index", "rod", "seen", "turn", "one", "other", "length"] ["value"] (defScope (topS 15)) := ⟨rfl, rfl, rfl, by decide +kernel, rfl, by decide +kernel, by decide +kernel⟩
def spNeedNet : Sp := fun vs H Q _ => ∃ (v : V) (n : Nat) (rods : List Rod), vs = [v] ∧ NetP H n rods v ∧ NetOk n rods ∧ ∀ H', Ex H H' → Q .non H'
theorem ok_need_net (D : Dv K mg "need_net" (topS 15) ["value"]) (G : Glob mg) (c_tuple_of : Ca P w K mg base 1 "tuple_of" spTupleOf) (c_within : Ca P w K mg base 2 "within" spWithin) (c_is_rod : Ca P w K mg base 2 "is_rod" spIsRod) : Ca P w K mg base 3 "need_net" spNeedNet := by
  refine dv_ok D sc_need_net (fun vs H Q E h => ?_) (fun f cdv A outer s H vs Q E hr h => ?_)
  · obtain ⟨v, n, rods, rfl, _⟩ := h
    rfl
  · obtain ⟨v, n, rods, rfl, ⟨p, w0, rfl, hp, r, ws, rfl, hq, hw⟩, N, k⟩ := h
    refine ⟨_, (pss_cons (ps_if (PW.pt (pw_or (pt_not (pt_val (C8.pe_c c_tuple_of hr (by decide) rfl (pa_cons (pv 0) (pa_cons pe_int (pa_cons pe_int pa_nil)))))) (pw_or (pt_not (pt_val (C8.pe_c c_within hr (by decide) rfl (pa_cons (pe_ix ix_tup (pv 0) pe_int (fun _ _ => rfl)) (pa_cons pe_int (pa_cons (C8.pe_gc rfl G.MOST_PLACES) pa_nil)))))) (pw_or1 (pt_not (pt_val (C8.pe_c c_tuple_of hr (by decide) rfl (pa_cons (pe_ix ix_tup (pv 0) pe_int (fun _ _ => rfl)) (pa_cons pe_int (pa_cons pe_int pa_nil)))))))))) (pss_one ps_never) pss_nil)
      (pss_cons (ps_asg (pv 0) (pg_tup rfl (pgs_cons (pg_name (i := 1) sc_need_net.nd rfl (Or.inl rfl)) (pgs_cons (pg_name (i := 2) sc_need_net.nd rfl (Or.inl rfl)) pgs_nil))))
      (pss_cons (ps_for PassesOwn.never rfl (pi_enumT (by rfl) G.enumerate_ (pa_cons (pv 2) pa_nil)) (pg_tup rfl (pgs_cons (pg_name (i := 3) sc_need_net.nd rfl (Or.inl rfl)) (pgs_cons (pg_name (i := 4) sc_need_net.nd rfl (Or.inl rfl)) pgs_nil))) (pss_one (ps_if (PW.pt (pw_or (pt_not (pt_val (C8.pe_c c_is_rod hr (by decide) rfl (pa_cons (pv 1) (pa_cons (pv 4) pa_nil))))) (pw_or1 (PW.pt (pw_and (pt_cmpR op_gt (pv 3) pe_int (nomark _)) (pw_and1 (pt_cmpR (op_leT (Nat.lt_of_succ_lt (hu_of hr))) (pe_slice sl_tup (pv 4) po_none (po_some pe_int)) (pe_slice sl_tup (pe_ix ix_tup (pv 2) (pe_op op_sub (pv 3) pe_int) (fun _ _ => rfl)) po_none (po_some pe_int)) (nomark _)))))))) (pss_one ps_never) pss_nil)))
      (pss_cons (ps_set (i := 5) sc_need_net.nd rfl (Or.inl rfl) (pe_lst (pa_cons pe_int pa_nil)))
      (pss_cons (ps_for PassesOwn.never rfl (pi_range1 (by rfl) G.range_ (pa_cons (pv 1) pa_nil)) (pg_name (i := 6) sc_need_net.nd rfl (Or.inl rfl)) (pss_one (ps_for PassesOwn.never rfl (pi_tup (pv 2)) (pg_tup rfl (pgs_cons (pg_name (i := 7) sc_need_net.nd rfl (Or.inl rfl)) (pgs_cons (pg_name (i := 8) sc_need_net.nd rfl (Or.inl rfl)) (pgs_cons (pg_name (i := 9) sc_need_net.nd rfl (Or.inl rfl)) pgs_nil)))) (pss_one (ps_if (pt_cmpR op_ne (pe_cmpR op_in_seq (pv 7) (pv 5) (by rfl)) (pe_cmpR op_in_seq (pv 8) (pv 5) (by rfl)) (nomark _)) (pss_one (ps_expr (pe_bm PySem.F.plainAttrs_list PySem.F.slot_list_append PySem.F.type_list_append mt_append (pv 5) (pa_cons (pe_ifExp (pt_cmpR op_in_seq (pv 7) (pv 5) (by rfl)) (pv 8) (pv 7)) pa_nil)))) pss_nil)))))
      (pss_one (ps_if (pt_cmpR op_lt (pe_callB call_len_seq (by rfl) G.len_ (by decide +kernel) (pa_cons (pv 5) pa_nil)) (pv 1) (nomark _)) (pss_one ps_never) pss_nil))))))), ?_⟩
    have hl := rods_len N
    have hwl := pr_len hw
    have n1 := N.n1
    have n4 := N.n4
    -- the shape
    refine q_when (b := false) (et_or (a := false) (et_not (a := true) (et_B (ev_call (ea_cons (ev_var rfl) (ea_cons ev_c (ea_cons ev_c ea_nil))) fun H1 e Q q E => ⟨p, _, 2, 2, rfl, .inl (e _ _ hp), Int.le_refl _, Int.le_refl _, q H1 (Ex.refl _)⟩)))
      fun _ => et_or (a := false) (et_not (a := true) (et_B (ev_call (ea_cons (ev_op (ev_var rfl) ev_c (rv_ixT (st_of hp) (at_of (j := 0) rfl))) (ea_cons ev_c (ea_cons ev_c ea_nil))) fun H1 e Q q E => ⟨(n : Int), 1, 8, rfl, by omega, by omega, q H1 (Ex.refl _)⟩)))
      fun _ => et_not (a := true) (et_B (ev_call (ea_cons (ev_op (ev_var rfl) ev_c (rv_ixT (st_of hp) (at_of (j := 1) rfl))) (ea_cons ev_c (ea_cons ev_c ea_nil))) fun H1 e Q q E => ⟨r, ws, 0, 28, rfl, .inl (e _ _ hq), by omega, by omega, q H1 (Ex.refl _)⟩))) (fun z => nomatch z) fun _ H1 e1 => ?_
    -- many, rods = value
    refine ⟨.ref p, rfl, g_two (e1 _ _ hp) ?_⟩
    -- each rod
    refine q_forE (ea_cons (ev_var rfl) ea_nil) (st_of (e1 _ _ hq)) (fun i σ' H' => Ex H H' ∧ ∃ y3 y4, σ' = [some (.ref p), some (.int n), some (.ref r), y3, y4, none, none, none, none, none]) (fun H2 e2 => ⟨e1.trans e2, _, _, rfl⟩) (fun i σ' H' _ z => st_of (z.1 _ _ hq)) ?_ ?_
    · rintro i x σ' H' T hx ⟨e2, y3, y4, rfl⟩ hT
      obtain ⟨rd, hrd, t, rfl, ht⟩ := pr_get hw hx
      have eT : Ex H (upd H' T (.tup [.int (i : Nat), .ref t])) := e2.trans (Ex.new hT)
      refine g_two upd_same ?_
      have hrm := List.mem_of_getElem? hrd
      have hro := N.rod _ hrm
      obtain ⟨a, b, l⟩ := rd
      simp only at hro
      refine s_when (b := false) (et_or (a := false) (et_not (a := true) (et_B (ev_call (ea_cons (ev_var rfl) (ea_cons (ev_var rfl) ea_nil)) fun H3 e3 Q q E => ⟨n, .ref t, a, b, l, rfl, ⟨t, rfl, e3 _ _ (eT _ _ ht)⟩, by omega, by omega, by omega, by omega, by omega, q⟩)))
        fun _ => ?_) (fun z => nomatch z) fun _ H3 e3 => ⟨eT.trans e3, _, _, rfl⟩
      by_cases hi : 0 < i
      · have hi2 : i - 1 < rods.length := by
          have := (List.getElem?_eq_some_iff.mp hrd).1
          omega
        obtain ⟨y, hy, t', rfl, ht'⟩ := pr_at hw (List.getElem?_eq_getElem hi2)
        have hlt : (rods[i - 1]'hi2).1 < a ∨ ((rods[i - 1]'hi2).1 = a ∧ (rods[i - 1]'hi2).2.1 < b) := by
          have h0 := (List.getElem?_eq_some_iff.mp hrd)
          have := (List.pairwise_iff_getElem.mp N.asc) (i - 1) i hi2 h0.1 (by omega)
          rw [h0.2] at this
          exact this
        refine et_and (a := true) (et_is (et_test (ev_gt (ev_var rfl) ev_c)) (by simp; omega)) fun _ => et_test (ev_opUU (xs := [.int a, .int b]) (ys := [.int ((rods[i - 1]'hi2).1 : Nat), .int ((rods[i - 1]'hi2).2.1 : Nat)]) (eu_sl (xs := [.int a, .int b, .int l]) (ev_var rfl) eo_none (eo_some ev_c) (st_of (eT _ _ ht)) cut2) (eu_sl (xs := [.int ((rods[i - 1]'hi2).1 : Nat), .int ((rods[i - 1]'hi2).2.1 : Nat), .int (rods[i - 1]'hi2).2.2]) (ev_op (ev_var rfl) (ev_sub (ev_var rfl) ev_c) (rv_ixT (st_of (eT _ _ hq)) ?_)) eo_none (eo_some ev_c) (st_of (eT _ _ ht')) cut2) fun u1 u2 H4 h1 h2 e4 => ?_)
        · rw [show ((i : Nat) : Int) - 1 = ((i - 1 : Nat) : Int) by omega]
          exact at_of hy
        · intro H5 e5 Q q
          refine ⟨u1, u2, [(a : Int), b], [((rods[i - 1]'hi2).1 : Int), (rods[i - 1]'hi2).2.1], rfl, rfl, st_of (e5 _ _ h1), st_of (e5 _ _ h2), ?_⟩
          have := lex_less (a := ((rods[i - 1]'hi2).1 : Int)) (b := (rods[i - 1]'hi2).2.1) (a' := a) (b' := b) (by omega)
          show Q (.bl (Ob.lexAt _ _ (decide (2 ≤ 2)) 0 2)) H5
          rw [this]
          exact q H5 (Ex.refl _)
      · exact et_is (et_and (b := true) (et_test (ev_gt (ev_var rfl) ev_c)) fun z => absurd z (by simp; omega)) (by simp; omega)
    · rintro σ2 H2 ⟨e2, y3, y4, rfl⟩
      -- seen = [0]
      refine q_asgL (el_lst (ea_cons ev_c ea_nil) (by decide)) fun sa H3 hsa e3 hs3 => ?_
      have hsa0 : H sa = none := fresh_back e2 hsa
      refine q_forR1 (n := n) (ea_cons (ev_var rfl) ea_nil) (by omega) (fun t σ' H' => Ex H H' ∧ ∃ (S : List Nat) (y6 y7 y8 y9 : Option V), σ' = [some (.ref p), some (.int n), some (.ref r), y3, y4, some (.ref sa), y6, y7, y8, y9] ∧ H' sa = some (.lst (S.map fun x : Nat => V.int x)) ∧ (∀ x, x ≤ t → x < n → x ∈ S) ∧ S.length ≤ 1 + t * 16)
        (fun H4 e4 => ⟨(e2.trans e3).trans e4, [0], _, _, _, _, rfl, e4 _ _ hs3, fun x hx _ => by simp; omega, by simp⟩) ?_ ?_
      · rintro t σ' H' ht ⟨e4, S, y6, y7, y8, y9, rfl, hS, hall, hsz⟩
        refine s_forT (ev_var rfl) (st_of (e4 _ _ hq)) (fun j σ5 H5 => Ex H H5 ∧ ∃ (S : List Nat) (y7 y8 y9 : Option V), σ5 = [some (.ref p), some (.int n), some (.ref r), y3, y4, some (.ref sa), some (.int (t : Nat)), y7, y8, y9] ∧ H5 sa = some (.lst (S.map fun x : Nat => V.int x)) ∧ (∀ x, x ≤ t → x < n → x ∈ S) ∧ (∀ i a b l, i < j → rods[i]? = some (a, b, l) → a ≤ t → b ∈ S) ∧ S.length ≤ 1 + t * 16 + j)
          (fun H5 e5 => ⟨e4.trans e5, S, _, _, _, rfl, e5 _ _ hS, hall, fun i a b l hi => absurd hi (Nat.not_lt_zero _), by omega⟩) (fun j σ5 H5 _ z => st_of (z.1 _ _ hq)) ?_ ?_
        · rintro j x σ5 H5 hx ⟨e5, S, y7, y8, y9, rfl, hS, hall, hdone, hsz⟩
          obtain ⟨⟨a, b, l⟩, hrd, u, rfl, hu⟩ := pr_get hw hx
          have hro := N.rod _ (List.mem_of_getElem? hrd)
          simp only at hro hu
          refine g_three (e5 _ _ hu) ?_
          have hj : j < 16 := by
            have := (List.getElem?_eq_some_iff.mp hrd).1
            omega
          have inA : ∀ H6, Ex H5 H6 → Ev (tOp (rIn K false) (tVar 7) (tVar 5)) [some (.ref p), some (.int n), some (.ref r), y3, y4, some (.ref sa), some (.int (t : Nat)), some (.int a), some (.int b), some (.int l)] H6 (.bl (decide (a ∈ S))) := fun H6 e6 => ev_inL (ev_var rfl) (ev_var rfl) (sq_of (e6 _ _ hS))
          have inB : Ev (tOp (rIn K false) (tVar 8) (tVar 5)) [some (.ref p), some (.int n), some (.ref r), y3, y4, some (.ref sa), some (.int (t : Nat)), some (.int a), some (.int b), some (.int l)] H5 (.bl (decide (b ∈ S))) := ev_inL (ev_var rfl) (ev_var rfl) (sq_of hS)
          refine s_when (et_test (ev_op (inA H5 (Ex.refl _)) inB (rv_ne rfl))) (fun hne H6 e6 => ?_) fun heq H6 e6 => ?_
          · -- one of them is new
            have hsa6 := e6 _ _ hS
            refine s_app (xs := S.map fun x : Nat => V.int x) (v := .int ((if a ∈ S then b else a : Nat) : Nat)) hsa6 (ev_var rfl) (ev_if (et_test (inA H6 e6)) (fun hb => ?_) (fun hb => ?_)) (by rw [List.length_map]; omega) fun H7 e7 => ?_
            · rw [if_pos (by simpa using hb)]
              exact ev_var rfl
            · rw [if_neg (by simpa using hb)]
              exact ev_var rfl
            · refine ⟨?_, S ++ [if a ∈ S then b else a], _, _, _, rfl, ?_, fun x h1 h2 => by simp [hall x h1 h2], ?_, by simp; omega⟩
              · exact Ex.mut ((e5.trans e6).trans e7) hsa0
              · rw [upd_same, List.map_append]
                rfl
              · intro i a' b' l' hi hrd' hle
                by_cases c : i < j
                · simp [hdone i a' b' l' c hrd' hle]
                · have : i = j := by omega
                  subst this
                  rw [hrd] at hrd'
                  cases hrd'
                  have : a ∈ S := hall a hle (by omega)
                  simp [this]
          · refine ⟨e5.trans e6, S, _, _, _, rfl, e6 _ _ hS, hall, ?_, by omega⟩
            intro i a' b' l' hi hrd' hle
            by_cases c : i < j
            · exact hdone i a' b' l' c hrd' hle
            · have : i = j := by omega
              subst this
              rw [hrd] at hrd'
              cases hrd'
              have h1 : a ∈ S := hall a hle (by omega)
              simpa [h1] using heq
        · rintro σ5 H5 ⟨e5, S, y7, y8, y9, rfl, hS, hall, hdone, hsz⟩
          refine ⟨e5, S, _, _, _, _, rfl, hS, fun x h1 h2 => ?_, by omega⟩
          by_cases c : x ≤ t
          · exact hall x c h2
          · have : x = t + 1 := by omega
            obtain ⟨y, l, hy, hm⟩ := N.con x (by omega) h2
            obtain ⟨i, hi, he⟩ := List.getElem_of_mem hm
            exact hdone i y x l (by omega) (by rw [List.getElem?_eq_getElem hi, he]) (by omega)
      · rintro σ' H' ⟨e4, S, y6, y7, y8, y9, rfl, hS, hall, hsz⟩
        have hS4 := len_all n S fun x hx => hall x (by omega) hx
        refine s_when (b := false) (et_is (et_test (ev_lt (ev_len2 (ev_var rfl) (.inl (sq_of hS))) (ev_var rfl))) ?_) (fun z => nomatch z) fun _ H5 e5 => k H5 (e4.trans e5)
        rw [List.length_map]
        simp
        omega
end
end K8
/-! Tables that are changed by place; table_of. -/
namespace K8
open PySem PySem.Spec PyProof.Rows L2 Evl
/-- a table of one's own: new behind H0, its rows apart -/
structure TabM (n : Nat) (H0 H : Hp) (a : Addr) (rs : List Addr) (D : Tab) : Prop where
  ex : Ex H0 H
  na : H0 a = none
  len : rs.length = n
  nd : rs.Nodup
  ap : a ∉ rs
  tab : H a = some (.lst (rs.map V.ref))
  row : ∀ i (h : i < rs.length), H0 rs[i] = none ∧ H rs[i] = some (.lst (rowV n (D i)))
theorem TabM.mono {n : Nat} {H0 H H' : Hp} {a : Addr} {rs : List Addr} {D : Tab} (T : TabM n H0 H a rs D) (e : Ex H H') : TabM n H0 H' a rs D :=
  { T with ex := T.ex.trans e, tab := e _ _ T.tab, row := fun i h => ⟨(T.row i h).1, e _ _ (T.row i h).2⟩ }
theorem TabM.p {n : Nat} {H0 H : Hp} {a : Addr} {rs : List Addr} {D : Tab} (T : TabM n H0 H a rs D) : TabP n H D (.ref a) := by
  refine ⟨a, _, rfl, T.tab, by rw [List.length_map, T.len], fun i hi => ?_⟩
  have h : i < rs.length := by rw [T.len]; exact hi
  refine ⟨rs[i], ?_, (T.row i h).2⟩
  rw [List.getElem?_map, List.getElem?_eq_getElem h]
  rfl
theorem TabM.congr {n : Nat} {H0 H : Hp} {a : Addr} {rs : List Addr} {D E : Tab} (T : TabM n H0 H a rs D) (h : ∀ i j, i < n → j < n → D i j = E i j) : TabM n H0 H a rs E :=
  { T with row := fun i hi => ⟨(T.row i hi).1, by
      rw [(T.row i hi).2]
      unfold rowV
      rw [List.map_congr_left fun j hj => by rw [h i j (by rw [← T.len]; exact hi) (List.mem_range.mp hj)]]⟩ }
theorem rowV_ne {n i : Nat} {f g : Nat → Int} (hi : i < n) (h : f i ≠ g i) : rowV n f ≠ rowV n g := fun e => by
  have h1 := rowV_at (f := f) hi
  rw [e, rowV_at hi] at h1
  have := V.int.inj (Option.some.inj h1)
  exact h this.symm
theorem refs_of_new {H1 H2 : Hp} : ∀ {os : List HO} {ys : List V}, Paired (NewO H1 H2) os ys → ∃ rs : List Addr, ys = rs.map V.ref ∧ Paired (fun o r => H1 r = none ∧ H2 r = some o) os rs
  | _, _, .nil => ⟨[], rfl, .nil⟩
  | _, _, .cons ⟨q, e, h1, h2⟩ t => by
    obtain ⟨rs, e2, p⟩ := refs_of_new t
    exact ⟨q :: rs, by rw [e, e2]; rfl, .cons ⟨h1, h2⟩ p⟩
theorem tabM_new {n : Nat} {H0 H1 H2 : Hp} {a : Addr} {ys : List V} {D : Tab} (hn : 1 ≤ n) (hd : ∀ i j, i < n → j < n → i ≠ j → D i i ≠ D j i) (e0 : Ex H0 H1) (e : Ex H1 H2) (ha : H1 a = none) (h2 : H2 a = some (.lst ys))
    (hp : Paired (NewO H1 H2) ((List.range n).map fun i => HO.lst (rowV n (D i))) ys) : ∃ rs, TabM n H0 H2 a rs D := by
  obtain ⟨rs, rfl, hr⟩ := refs_of_new hp
  have hl : rs.length = n := by
    have := pr_len hr
    rw [List.length_map, List.length_range] at this
    exact this.symm
  have row : ∀ i (h : i < rs.length), H1 rs[i] = none ∧ H2 rs[i] = some (.lst (rowV n (D i))) := fun i h => by
    obtain ⟨o, ho, h1, h2⟩ := pr_get hr (List.getElem?_eq_getElem h)
    rw [List.getElem?_map, List.getElem?_range (by omega)] at ho
    have : HO.lst (rowV n (D i)) = o := Option.some.inj ho
    rw [← this] at h2
    exact ⟨h1, h2⟩
  refine ⟨rs, e0.trans e, fresh_back e0 ha, hl, ?_, fun hm => ?_, h2, fun i h => ⟨fresh_back e0 (row i h).1, (row i h).2⟩⟩
  · rw [List.nodup_iff_pairwise_ne, List.pairwise_iff_getElem]
    intro i j hi hj hij z
    have a1 := (row i hi).2
    have a2 := (row j hj).2
    rw [← z, a1] at a2
    have := HO.lst.inj (Option.some.inj a2)
    exact rowV_ne (by omega) (hd i j (by omega) (by omega) (by omega)) this
  · obtain ⟨i, hi, rfl⟩ := List.getElem_of_mem hm
    have a1 := (row i hi).2
    rw [h2] at a1
    have := HO.lst.inj (Option.some.inj a1)
    have b1 : (rs.map V.ref)[0]? = some (.ref (rs[0]'(by omega))) := by
      rw [List.getElem?_map, List.getElem?_eq_getElem (by omega)]
      rfl
    rw [this, rowV_at (by omega)] at b1
    cases b1
def setD (D : Tab) (i j : Nat) (x : Int) : Tab := fun i' j' => if i' = i ∧ j' = j then x else D i' j'
theorem rowV_set {n j : Nat} {f : Nat → Int} {x : Int} : (rowV n f).set j (.int x) = rowV n fun j' => if j' = j then x else f j' := by
  refine List.ext_getElem (by simp [rowV]) fun k h1 h2 => ?_
  have hk : k < n := by simpa [rowV] using h2
  rw [List.getElem_set]
  have e1 : (rowV n f)[k]'(by simpa [rowV] using hk) = .int (f k) := by simp [rowV]
  have e2 : (rowV n fun j' => if j' = j then x else f j')[k]'h2 = .int (if k = j then x else f k) := by simp [rowV]
  rw [e2]
  by_cases c : j = k
  · rw [if_pos c, if_pos c.symm]
  · rw [if_neg c, if_neg (Ne.symm c), e1]
theorem TabM.set {n : Nat} {H0 H : Hp} {a : Addr} {rs : List Addr} {D : Tab} (T : TabM n H0 H a rs D) {i j : Nat} {x : Int} (hi : i < rs.length) : TabM n H0 (upd H rs[i] (.lst ((rowV n (D i)).set j (.int x)))) a rs (setD D i j x) := by
  refine ⟨Ex.mut T.ex (T.row i hi).1, T.na, T.len, T.nd, T.ap, ?_, fun k hk => ⟨(T.row k hk).1, ?_⟩⟩
  · rw [upd_ne fun z => T.ap (by rw [z]; exact List.getElem_mem hi)]
    exact T.tab
  · by_cases c : k = i
    · subst c
      rw [upd_same, rowV_set]
      unfold setD
      simp
    · rw [upd_ne fun z => c ((List.getElem_inj T.nd).mp z), (T.row k hk).2]
      unfold setD
      simp [c]
section
variable {K : PySem.W.Frag} {σ : L2.St} {H H0 : Hp} {ta tb tc te : TE} {D : Ends} {tz : TS} {n : Nat} {a : Addr} {rs : List Addr} {B : Tab}
theorem s_cell {i j : Nat} {x : Int} (T : TabM n H0 H a rs B) (hi : i < n) (hj : j < n) (he : Ev te σ H (.int x)) (ho : Ev ta σ H (.ref a)) (h1 : Ev tb σ H (.int (i : Nat))) (h2 : Ev tc σ H (.int (j : Nat)))
    (k : ∀ H2, TabM n H0 H2 a rs (setD B i j x) → D.nx σ H2) : tAsg te (gSub (tOp (rIxL K) ta tb) tc rSetL) D σ H := by
  have hi' : i < rs.length := by rw [T.len]; exact hi
  refine s_setL (l := rs[i]) (xs := rowV n (B i)) (j := j) (T.row i hi').2 he (ev_op ho h1 (rv_ixL (sq_of T.tab) (at_of ?_))) h2 (by simpa [rowV] using hj) fun H1 e1 => ?_
  · rw [List.getElem?_map, List.getElem?_eq_getElem hi']
    rfl
  · exact k _ ((T.mono e1).set hi')
theorem q_cell {i j : Nat} {x : Int} (T : TabM n H0 H a rs B) (hi : i < n) (hj : j < n) (he : Ev te σ H (.int x)) (ho : Ev ta σ H (.ref a)) (h1 : Ev tb σ H (.int (i : Nat))) (h2 : Ev tc σ H (.int (j : Nat)))
    (k : ∀ H2, TabM n H0 H2 a rs (setD B i j x) → tz D σ H2) : tSeq (tAsg te (gSub (tOp (rIxL K) ta tb) tc rSetL)) tz D σ H := s_cell (D := { D with nx := tz D }) T hi hj he ho h1 h2 k
end
theorem setRod_set (D : Tab) (a b : Nat) (l : Int) : setD (setD D a b (min (D a b) l)) b a (min (D a b) l) = setRod D (a, b, l) := by
  funext i j
  unfold setD setRod
  simp only
  by_cases c : i = b ∧ j = a
  · rw [if_pos c, if_pos (.inr c)]
  · rw [if_neg c]
    by_cases d : i = a ∧ j = b
    · rw [if_pos d, if_pos (.inl d)]
    · rw [if_neg d, if_neg (by omega)]
/-- a stage of the middles, the rows below i done, of row i the places below j -/
def midD (D : Tab) (m i j : Nat) : Tab := fun i' j' => if i' < i ∨ (i' = i ∧ j' < j) then stepFW D m i' j' else D i' j'
theorem step_mid {D : Tab} {m : Nat} (hm : D m m = 0) (i : Nat) : stepFW D m i m = D i m ∧ stepFW D m m i = D m i := by
  unfold stepFW
  rw [hm]
  omega
theorem mid_set {D : Tab} {m i j : Nat} (hm : D m m = 0) : setD (midD D m i j) i j (min (midD D m i j i j) (midD D m i j i m + midD D m i j m j)) = midD D m i (j + 1) := by
  have e1 : midD D m i j i j = D i j := if_neg (by omega)
  have e2 : midD D m i j i m = D i m := by
    unfold midD
    split
    · exact (step_mid hm i).1
    · rfl
  have e3 : midD D m i j m j = D m j := by
    unfold midD
    split
    · exact (step_mid hm j).2
    · rfl
  rw [e1, e2, e3]
  funext i' j'
  unfold setD
  by_cases c : i' = i ∧ j' = j
  · rw [if_pos c, c.1, c.2]
    unfold midD
    rw [if_pos (by omega)]
    rfl
  · rw [if_neg c]
    unfold midD
    by_cases d : i' < i ∨ (i' = i ∧ j' < j)
    · rw [if_pos d, if_pos (by omega)]
    · rw [if_neg d, if_neg (by omega)]
theorem foldl_take_succ {α β : Type} (f : β → α → β) (b : β) {l : List α} {i : Nat} {x : α} (h : l[i]? = some x) : (l.take (i + 1)).foldl f b = f ((l.take i).foldl f b) x := by
  rw [List.take_add_one, h, List.foldl_append]
  rfl
section
variable {P : Program} {w : World} {K : PySem.W.Frag} {mg : Str → Option Value} {base : Heap}
theorem sc_table_of : FnScope ["net", "many", "rods", "found", "one", "other", "length", "middle"] ["net"] (defScope (topS 17)) := ⟨rfl, rfl, rfl, by decide +kernel, rfl, by decide +kernel, by decide +kernel⟩
def spTable : Sp := fun vs H Q _ => ∃ (v : V) (n : Nat) (rods : List Rod), vs = [v] ∧ NetP H n rods v ∧ NetOk n rods ∧ ∀ H' t, Ex H H' → TabP n H' (fw n rods) t → Q t H'
theorem ok_table_of (D : Dv K mg "table_of" (topS 17) ["net"]) (G : Glob mg) : Ca P w K mg base 1 "table_of" spTable := by
  refine dv_ok D sc_table_of (fun vs H Q E h => ?_) (fun f cdv A outer s H vs Q E hr h => ?_)
  · obtain ⟨v, n, rods, rfl, _⟩ := h
    rfl
  · obtain ⟨v, n, rods, rfl, ⟨p, w0, rfl, hp, r, ws, rfl, hq, hw⟩, N, k⟩ := h
    refine ⟨_, (pss_cons (ps_asg (pv 0) (pg_tup rfl (pgs_cons (pg_name (i := 1) sc_table_of.nd rfl (Or.inr rfl)) (pgs_cons (pg_name (i := 2) sc_table_of.nd rfl (Or.inl rfl)) pgs_nil))))
      (pss_cons (ps_setLc (own := [("one", 4)]) (g := (gName 4)) (tt := tYes) (i := 3) rfl sc_table_of.nd rfl rfl (sw_true rfl rfl rfl (by decide +kernel)) (pi_range1 (by rfl) G.range_ (pa_cons (pv 1) pa_nil)) (blkOk_by (own := [("one", 4)]) (N := ["net", "many", "rods", "found", "one", "other", "length", "middle"]) (sc := (defScope (topS 17))) (by decide +kernel)) (fun _ _ _ _ _ => (pg_name (i := 4) sc_table_of.nd rfl (Or.inr rfl))) (fun _ _ _ _ _ => pts_nil) (fun _ _ _ _ _ => (pe_lc (own := [("other", 5)]) (g := (gName 5)) (tt := tYes) rfl sc_table_of.nd (pi_range1 (by rfl) G.range_ (pa_cons (pv 1) pa_nil)) (blkOk_in (own := [("other", 5)]) (N := ["net", "many", "rods", "found", "one", "other", "length", "middle"]) (sc := (defScope (topS 17))) rfl (by decide +kernel)) (fun _ _ _ _ _ => (pg_name (i := 5) sc_table_of.nd rfl (Or.inl rfl))) (fun _ _ _ _ _ => pts_nil) (fun _ _ _ _ _ => (pe_ifExp (pt_cmpR op_eq (pv 4) (pv 5) (nomark _)) pe_int pe_int)))))
      (pss_cons (ps_for PassesOwn.never rfl (pi_tup (pv 2)) (pg_tup rfl (pgs_cons (pg_name (i := 4) sc_table_of.nd rfl (Or.inl rfl)) (pgs_cons (pg_name (i := 5) sc_table_of.nd rfl (Or.inl rfl)) (pgs_cons (pg_name (i := 6) sc_table_of.nd rfl (Or.inl rfl)) pgs_nil)))) (pss_cons (ps_asg (pe_callB (call_min2 rfl) (by rfl) G.min_ (by decide +kernel) (pa_cons (pe_ix ix_list (pe_ix ix_list (pv 3) (pv 4) (fun _ _ => rfl)) (pv 5) (fun _ _ => rfl)) (pa_cons (pv 6) pa_nil))) (pg_sub (pe_ix ix_list (pv 3) (pv 4) (fun _ _ => rfl)) (pv 5) set_list))
      (pss_one (ps_asg (pe_ix ix_list (pe_ix ix_list (pv 3) (pv 4) (fun _ _ => rfl)) (pv 5) (fun _ _ => rfl)) (pg_sub (pe_ix ix_list (pv 3) (pv 5) (fun _ _ => rfl)) (pv 4) set_list)))))
      (pss_cons (ps_for PassesOwn.never rfl (pi_range1 (by rfl) G.range_ (pa_cons (pv 1) pa_nil)) (pg_name (i := 7) sc_table_of.nd rfl (Or.inl rfl)) (pss_one (ps_for PassesOwn.never rfl (pi_range1 (by rfl) G.range_ (pa_cons (pv 1) pa_nil)) (pg_name (i := 4) sc_table_of.nd rfl (Or.inl rfl)) (pss_one (ps_for PassesOwn.never rfl (pi_range1 (by rfl) G.range_ (pa_cons (pv 1) pa_nil)) (pg_name (i := 5) sc_table_of.nd rfl (Or.inl rfl)) (pss_one (ps_asg (pe_callB (call_min2 rfl) (by rfl) G.min_ (by decide +kernel) (pa_cons (pe_ix ix_list (pe_ix ix_list (pv 3) (pv 4) (fun _ _ => rfl)) (pv 5) (fun _ _ => rfl)) (pa_cons (pe_op op_add (pe_ix ix_list (pe_ix ix_list (pv 3) (pv 4) (fun _ _ => rfl)) (pv 7) (fun _ _ => rfl)) (pe_ix ix_list (pe_ix ix_list (pv 3) (pv 7) (fun _ _ => rfl)) (pv 5) (fun _ _ => rfl))) pa_nil))) (pg_sub (pe_ix ix_list (pv 3) (pv 4) (fun _ _ => rfl)) (pv 5) set_list))))))))
      (pss_one (ps_ret (pv 3))))))), ?_⟩
    have n1 := N.n1
    have n4 := N.n4
    -- many, rods = net
    refine ⟨.ref p, rfl, g_two hp ?_⟩
    -- found
    have hrow : ∀ (i : Nat) (x : V) H1, Ex H H1 → (rngV 0 ((n : Nat) : Int).toNat)[i]? = some x → EvN (tLc (iRng1 (tCons (tVar 1) tNil)) (gName 5) tYes (tIf (tTest (tOp rEq (tVar 4) (tVar 5))) (tC (.int 0)) (tC (.int 9999))) [5]) [some (.ref p), some (.int n), some (.ref r), none, some x, none, none, none] H1 (.lst (rowV n (t0 i))) := by
      intro i x H1 e1 hx
      obtain ⟨hi, rfl⟩ := rngV_at hx
      have h := el_lcW (H := H1) (walks_rng (n := n) (ea_cons (ev_var (σ := [some (.ref p), some (.int n), some (.ref r), none, some (.int (0 + (i : Nat))), none, none, none]) (i := 1) rfl) ea_nil) (by omega)) (g := gName 5) (vs := [5]) (t := tYes) (te := tIf (tTest (tOp rEq (tVar 4) (tVar 5))) (tC (.int 0)) (tC (.int 9999)))
        (by rw [rngV_len]; omega) (fun j y => [some (.ref p), some (.int n), some (.ref r), none, some (.int (0 + (i : Nat))), some y, none, none]) (fun j y H2 e hy Q q => q) (fun _ _ _ => rfl) (fun _ => true) (fun j => .int (t0 i j)) (fun _ _ _ _ _ => et_yes)
        (fun j y H2 e hy _ => by
          obtain ⟨hj, rfl⟩ := rngV_at hy
          refine ev_if (et_test (ev_eqI (ev_var rfl) (ev_var rfl))) (fun hb => ?_) (fun hb => ?_)
          · have : i = j := by
              simp at hb
              omega
            rw [show t0 i j = 0 from if_pos this]
            exact ev_c
          · have : ¬ i = j := by
              simp at hb
              omega
            rw [show t0 i j = 9999 from if_neg this]
            exact ev_c)
      rw [given_all, rngV_len] at h
      have e2 : ((n : Nat) : Int).toNat = n := by omega
      rw [e2] at h
      exact h
    have hall := els_lcW (H := H) (walks_rng (n := n) (ea_cons (ev_var (σ := [some (.ref p), some (.int n), some (.ref r), none, none, none, none, none]) (i := 1) rfl) ea_nil) (by omega)) (g := gName 4) (vs := [4]) (t := tYes) (te := tLc (iRng1 (tCons (tVar 1) tNil)) (gName 5) tYes (tIf (tTest (tOp rEq (tVar 4) (tVar 5))) (tC (.int 0)) (tC (.int 9999))) [5])
      (by rw [rngV_len]; omega) (fun j y => [some (.ref p), some (.int n), some (.ref r), none, some y, none, none, none]) (fun j y H2 e hy Q q => q) (fun _ _ _ => rfl) (fun _ => true) (fun i => .lst (rowV n (t0 i))) (fun _ _ _ _ _ => et_yes) (fun i x H1 e hx _ => hrow i x H1 e hx)
    refine q_asgLs hall fun fa ys H1 hfa e1 hf hys => ?_
    rw [List.filter_eq_self.mpr fun _ _ => rfl, rngV_len, show ((n : Nat) : Int).toNat = n by omega] at hys
    obtain ⟨rs, T⟩ := tabM_new (H0 := H) (D := t0) n1 (fun i j _ _ hij => by
      unfold t0
      rw [if_pos rfl, if_neg (Ne.symm hij)]
      decide) (Ex.refl _) e1 hfa hf hys
    -- the rods
    refine q_forT (ev_var rfl) (st_of (e1 _ _ hq)) (fun i σ' H' => TabM n H H' fa rs ((rods.take i).foldl setRod t0) ∧ ∃ y4 y5 y6, σ' = [some (.ref p), some (.int n), some (.ref r), some (.ref fa), y4, y5, y6, none]) (fun H2 e2 => ⟨T.mono e2, _, _, _, rfl⟩) (fun i σ' H' _ z => st_of (z.1.ex _ _ hq)) ?_ ?_
    · rintro i x σ' H' hx ⟨T', y4, y5, y6, rfl⟩
      obtain ⟨⟨a, b, l⟩, hrd, u, rfl, hu⟩ := pr_get hw hx
      have hro := N.rod _ (List.mem_of_getElem? hrd)
      simp only at hro hu
      refine g_three (T'.ex _ _ hu) ?_
      have ha : a < n := by omega
      refine q_cell T' ha hro.2.1 (ev_mn2 (ev_cell (ev_var rfl) (ev_var rfl) (ev_var rfl) T'.p ha hro.2.1) (ev_var rfl)) (ev_var rfl) (ev_var rfl) (ev_var rfl) fun H2 T2 => ?_
      refine s_cell T2 hro.2.1 ha (ev_cell (ev_var rfl) (ev_var rfl) (ev_var rfl) T2.p ha hro.2.1) (ev_var rfl) (ev_var rfl) (ev_var rfl) fun H3 T3 => ⟨?_, _, _, _, rfl⟩
      rw [foldl_take_succ _ _ hrd, ← setRod_set]
      have : setD ((rods.take i).foldl setRod t0) a b (min ((rods.take i).foldl setRod t0 a b) l) a b = min ((rods.take i).foldl setRod t0 a b) l := if_pos ⟨rfl, rfl⟩
      rw [this] at T3
      exact T3
    · rintro σ2 H2 ⟨T2, y4, y5, y6, rfl⟩
      rw [← pr_len hw, List.take_length] at T2
      -- the middles
      refine q_forR1 (n := n) (ea_cons (ev_var rfl) ea_nil) (by omega) (fun m σ' H' => TabM n H H' fa rs (fwTo rods m) ∧ ∃ y4 y5 y7, σ' = [some (.ref p), some (.int n), some (.ref r), some (.ref fa), y4, y5, y6, y7]) (fun H3 e3 => ⟨T2.mono e3, _, _, _, rfl⟩) ?_ ?_
      · rintro m σ' H' hm ⟨T3, y4, y5, y7, rfl⟩
        have hm' : m < n := by omega
        have dm := (good_to N m).diag m
        refine s_forR1 (n := n) (ea_cons (ev_var rfl) ea_nil) (by omega) (fun i σ' H' => TabM n H H' fa rs (midD (fwTo rods m) m i 0) ∧ ∃ y4 y5, σ' = [some (.ref p), some (.int n), some (.ref r), some (.ref fa), y4, y5, y6, some (.int (m : Nat))]) (fun H3 e3 => ⟨(T3.mono e3).congr fun i j _ _ => (if_neg (by omega)).symm, _, _, rfl⟩) ?_ ?_
        · rintro i σ' H' hi ⟨T4, y4, y5, rfl⟩
          have hi' : i < n := by omega
          refine s_forR1 (n := n) (ea_cons (ev_var rfl) ea_nil) (by omega) (fun j σ' H' => TabM n H H' fa rs (midD (fwTo rods m) m i j) ∧ ∃ y5, σ' = [some (.ref p), some (.int n), some (.ref r), some (.ref fa), some (.int (i : Nat)), y5, y6, some (.int (m : Nat))]) (fun H3 e3 => ⟨T4.mono e3, _, rfl⟩) ?_ ?_
          · rintro j σ' H' hj ⟨T5, y5, rfl⟩
            have hj' : j < n := by omega
            refine s_cell T5 hi' hj' (ev_mn2 (ev_cell (ev_var rfl) (ev_var rfl) (ev_var rfl) T5.p hi' hj') (ev_add (ev_cell (ev_var rfl) (ev_var rfl) (ev_var rfl) T5.p hi' hm') (ev_cell (ev_var rfl) (ev_var rfl) (ev_var rfl) T5.p hm' hj'))) (ev_var rfl) (ev_var rfl) (ev_var rfl) fun H3 T6 => ⟨?_, _, rfl⟩
            rw [mid_set dm] at T6
            exact T6
          · rintro σ' H' ⟨T5, y5, rfl⟩
            refine ⟨T5.congr fun i' j' h1 h2 => ?_, _, _, rfl⟩
            unfold midD
            by_cases c : i' < i + 1
            · rw [if_pos (by omega), if_pos (by omega)]
            · rw [if_neg (by omega), if_neg (by omega)]
        · rintro σ' H' ⟨T4, y4, y5, rfl⟩
          refine ⟨T4.congr fun i' j' h1 h2 => ?_, _, _, _, rfl⟩
          rw [fwTo_succ]
          exact if_pos (by omega)
      · rintro σ' H' ⟨T3, y4, y5, y7, rfl⟩
        refine ⟨.ref fa, rfl, k _ _ T3.ex ?_⟩
        exact T3.p
end
end K8
/-! need_tops, clash_of, covers_of -/
namespace K8
open PySem PySem.Spec PyProof.Rows L2 Evl
theorem g_idx2 {K : PySem.W.Frag} {i j k : Nat} {H1 : Hp} {T t : Addr} {x y z : V} {σ' : L2.St} {Q : L2.St → Hp → Prop} (h : H1 T = some (.tup [x, .ref t])) (h2 : H1 t = some (.tup [y, z])) (q : Q (((σ'.set i (some x)).set j (some y)).set k (some z)) H1) :
    gTup K 2 (gCons (gName i) (gCons (gTup K 2 (gCons (gName j) (gCons (gName k) gNil))) gNil)) (.ref T) σ' H1 Q :=
  ⟨T, [x, .ref t], rfl, st_of h, rfl, x, [.ref t], rfl, .ref t, [], rfl, t, [y, z], rfl, st_of h2, rfl, y, [z], rfl, z, [], rfl, rfl, rfl, q⟩
theorem tops_len {n : Nat} {lim : Int} {tops : List Top} (T : TopsOk n lim tops) : tops.length ≤ n := by
  have h := rise_filter T.rise T.lt
  have h2 := congrArg List.length h
  have h3 := List.length_filter_le (fun x => decide (x ∈ places tops)) (List.range n)
  rw [h2, List.length_range] at h3
  unfold places at h3
  rw [List.length_map] at h3
  exact h3
theorem head_filter {α : Type} (f : α → Bool) : ∀ (l : List α) (j : Nat) (u : α), (∀ k x, k < j → l[k]? = some x → f x = false) → l[j]? = some u → f u = true → (l.filter f).head? = some u
  | [], j, u, _, h, _ => by simp at h
  | a :: l, 0, u, _, h, hu => by
    have : a = u := Option.some.inj h
    subst this
    rw [List.filter_cons, if_pos hu]
    rfl
  | a :: l, j + 1, u, hk, h, hu => by
    have ha := hk 0 a (by omega) rfl
    rw [List.filter_cons, if_neg (by rw [ha]; decide)]
    exact head_filter f l j u (fun k x hkj hx => hk (k + 1) x (by omega) hx) h hu
def PlP (H : Hp) (x : Nat × Nat) (v : V) : Prop := ∃ p, v = .ref p ∧ H p = some (.tup [.int (x.1 : Nat), .int (x.2 : Nat)])
/-- the dict of covers -/
def coverV (D : Tab) (tops : List Top) (q : Nat) : V := if 0 ≤ cov D tops q then .int (cov D tops q) else .non
def coversL (n : Nat) (D : Tab) (tops : List Top) : List (Key × V) := (rest n tops).map fun q : Nat => (Sum.inl (q : Int), coverV D tops q)
theorem coversL_succ (k : Nat) (D : Tab) (tops : List Top) : coversL (k + 1) D tops = coversL k D tops ++ (if k ∈ places tops then [] else [(Sum.inl (k : Int), coverV D tops k)]) := by
  unfold coversL
  rw [rest_succ, List.map_append]
  congr 1
  split <;> rfl
theorem valV_rest {D : Tab} {tops : List Top} : ∀ (l : List Nat) (q : Nat), valV (l.map fun q : Nat => ((Sum.inl (q : Int) : Key), coverV D tops q)) (Sum.inl (q : Int)) = if q ∈ l then some (coverV D tops q) else none
  | [], q => by simp [valV_nil]
  | a :: l, q => by
    have ih := valV_rest (D := D) (tops := tops) l q
    by_cases e : a = q
    · subst e
      rw [List.map_cons, valV_pos rfl, if_pos (by simp)]
    · rw [List.map_cons, valV_neg (fun z => e (by have := Sum.inl.inj z; omega)), ih]
      simp [Ne.symm e]
theorem covers_at {n : Nat} {D : Tab} {tops : List Top} {q : Nat} (h : q ∈ rest n tops) : valV (coversL n D tops) (Sum.inl (q : Int)) = some (coverV D tops q) := by
  unfold coversL
  rw [valV_rest, if_pos h]
theorem rest_len (n : Nat) (tops : List Top) : (rest n tops).length ≤ n := by
  have := List.length_filter_le (fun q => !decide (q ∈ places tops)) (List.range n)
  rw [List.length_range] at this
  exact this
section
variable {P : Program} {w : World} {K : PySem.W.Frag} {mg : Str → Option Value} {base : Heap}
theorem sc_need_tops : FnScope ["net", "tops", "index", "place", "height", "told"] ["net", "tops"] (defScope (topS 20)) := ⟨rfl, rfl, rfl, by decide +kernel, rfl, by decide +kernel, by decide +kernel⟩
def spNeedTops : Sp := fun vs H Q _ => ∃ (v t : V) (n : Nat) (rods : List Rod) (tops : List Top), vs = [v, t] ∧ NetP H n rods v ∧ NetOk n rods ∧ TopsP H tops t ∧ TopsOk n 99 tops ∧ ∀ H' u, Ex H H' → TabP n H' (fw n rods) u → Q u H'
theorem ok_need_tops (D : Dv K mg "need_tops" (topS 20) ["net", "tops"]) (G : Glob mg) (c_tuple_of : Ca P w K mg base 1 "tuple_of" spTupleOf) (c_within : Ca P w K mg base 2 "within" spWithin) (c_need_net : Ca P w K mg base 3 "need_net" spNeedNet) (c_table_of : Ca P w K mg base 1 "table_of" spTable) : Ca P w K mg base 4 "need_tops" spNeedTops := by
  refine dv_ok D sc_need_tops (fun vs H Q E h => ?_) (fun f cdv A outer s H vs Q E hr h => ?_)
  · obtain ⟨v, t, n, rods, tops, rfl, _⟩ := h
    rfl
  · obtain ⟨v, t, n, rods, tops, rfl, hnet, N, ⟨q, ws, rfl, hq, hw⟩, T, k⟩ := h
    refine ⟨_, (pss_cons (ps_expr (C8.pe_c c_need_net hr (by decide) rfl (pa_cons (pv 0) pa_nil)))
      (pss_cons (ps_if (PW.pt (pw_or (pt_not (pt_val (C8.pe_c c_tuple_of hr (by decide) rfl (pa_cons (pv 1) (pa_cons pe_int (pa_cons (pe_ix ix_tup (pv 0) pe_int (fun _ _ => rfl)) pa_nil)))))) (pw_or1 (pt_not (pt_val (pe_callB (cr_all rfl) (by rfl) G.all_ (by decide +kernel) (pa_cons (pe_lc (own := [("told", 5)]) (g := (gName 5)) (tt := tYes) rfl sc_need_tops.nd (pi_tup (pv 1)) (blkOk_by (own := [("told", 5)]) (N := ["net", "tops", "index", "place", "height", "told"]) (sc := (defScope (topS 20))) (by decide +kernel)) (fun _ _ _ _ _ => (pg_name (i := 5) sc_need_tops.nd rfl (Or.inl rfl))) (fun _ _ _ _ _ => pts_nil) (fun _ _ _ _ _ => (C8.pe_c c_tuple_of hr (by decide) rfl (pa_cons (pv 5) (pa_cons pe_int (pa_cons pe_int pa_nil)))))) pa_nil))))))) (pss_one ps_never) pss_nil)
      (pss_cons (ps_for PassesOwn.never rfl (pi_enumT (by rfl) G.enumerate_ (pa_cons (pv 1) pa_nil)) (pg_tup rfl (pgs_cons (pg_name (i := 2) sc_need_tops.nd rfl (Or.inl rfl)) (pgs_cons (pg_tup rfl (pgs_cons (pg_name (i := 3) sc_need_tops.nd rfl (Or.inl rfl)) (pgs_cons (pg_name (i := 4) sc_need_tops.nd rfl (Or.inl rfl)) pgs_nil))) pgs_nil))) (pss_cons (ps_if (PW.pt (pw_or (pt_not (pt_val (C8.pe_c c_within hr (by decide) rfl (pa_cons (pv 3) (pa_cons pe_int (pa_cons (pe_op op_sub (pe_ix ix_tup (pv 0) pe_int (fun _ _ => rfl)) pe_int) pa_nil)))))) (pw_or1 (pt_not (pt_val (C8.pe_c c_within hr (by decide) rfl (pa_cons (pv 4) (pa_cons pe_int (pa_cons pe_int pa_nil))))))))) (pss_one ps_never) pss_nil)
      (pss_one (ps_if (PW.pt (pw_and (pt_cmpR op_gt (pv 2) pe_int (nomark _)) (pw_and1 (pt_cmpR op_le (pv 3) (pe_ix ix_tup (pe_ix ix_tup (pv 1) (pe_op op_sub (pv 2) pe_int) (fun _ _ => rfl)) pe_int (fun _ _ => rfl)) (nomark _))))) (pss_one ps_never) pss_nil))))
      (pss_one (ps_ret (C8.pe_c c_table_of hr (by decide) rfl (pa_cons (pv 0) pa_nil))))))), ?_⟩
    have hnet' := hnet
    obtain ⟨p, w0, rfl, hp, _⟩ := hnet
    have n1 := N.n1
    have n4 := N.n4
    have hl := tops_len T
    have hwl := pr_len hw
    have hne : 1 ≤ tops.length := by
      have := T.ne
      cases tops with
      | nil => exact absurd rfl this
      | cons a l => simp
    refine q_drop (ev_call (z := .non) (ea_cons (ev_var rfl) ea_nil) fun H1 e Q q E => ⟨.ref p, n, rods, rfl, hnet'.mono e, N, q⟩) fun H1 e1 => ?_
    have hnet0 : ∀ {σ : L2.St} {H2 : Hp}, σ[0]? = some (some (.ref p)) → Ex H H2 → Ev (tOp (rIxT K) (tVar 0) (tC (.int 0))) σ H2 (.int n) := fun hs e => ev_op (ev_var hs) ev_c (rv_ixT (st_of (e _ _ hp)) (at_of (j := 0) rfl))
    have hall := el_lcW (H := H1) (walks_tup (K := K) (ev_var (σ := [some (.ref p), some (.ref q), none, none, none, none]) (i := 1) rfl) (.inl (ex_rd e1 hq))) (by omega) (g := gName 5) (vs := [5]) (t := tYes) (te := tCall spTupleOf [] E0 (tCons (tVar 5) (tCons (tC (.int 2)) (tCons (tC (.int 2)) tNil)))) (fun j y => [some (.ref p), some (.ref q), none, none, none, some y]) (fun j y H2 e hy Q q => q) (fun _ _ _ => rfl) (fun _ => true) (fun _ => .bl true) (fun _ _ _ _ _ => et_yes)
      (fun j y H2 e hy _ => by
        obtain ⟨tt, u, _, rfl, hu⟩ := top_at hw hy
        exact ev_call (ea_cons (ev_var rfl) (ea_cons ev_c (ea_cons ev_c ea_nil))) fun H3 e3 Q q E => ⟨u, _, 2, 2, rfl, .inl (e3 _ _ (e _ _ (e1 _ _ hu))), Int.le_refl _, Int.le_refl _, q H3 (Ex.refl _)⟩)
    rw [given_all, show (List.range ws.length).map (fun _ => V.bl true) = ((List.range ws.length).map fun _ => true).map V.bl by rw [List.map_map]; rfl] at hall
    have hall2 := ev_all (K := K) hall
    rw [show ((List.range ws.length).map fun _ => true).all id = true by rw [List.all_map]; exact List.all_eq_true.mpr fun _ _ => rfl] at hall2
    refine q_when (b := false) (et_or (a := false) (et_not (a := true) (et_B (ev_call (ea_cons (ev_var rfl) (ea_cons ev_c (ea_cons (hnet0 rfl e1) ea_nil))) fun H2 e Q qq E => ⟨q, ws, 1, n, rfl, ex_rd (e1.trans e) hq, by omega, by omega, qq H2 (Ex.refl _)⟩))) fun _ => et_not (a := true) (et_B hall2)) (fun z => nomatch z) fun _ H2 e2 => ?_
    refine q_forE (ea_cons (ev_var rfl) ea_nil) (.inl (ex_rd (e1.trans e2) hq)) (fun i σ' H' => Ex H H' ∧ ∃ y2 y3 y4, σ' = [some (.ref p), some (.ref q), y2, y3, y4, none]) (fun H3 e3 => ⟨(e1.trans e2).trans e3, _, _, _, rfl⟩) (fun i σ' H' _ z => .inl (ex_rd z.1 hq)) ?_ ?_
    · rintro i x σ' H' U hx ⟨e3, y2, y3, y4, rfl⟩ hU
      obtain ⟨tt, u, htt, rfl, hu⟩ := top_at hw hx
      have eT : Ex H (upd H' U (.tup [.int (i : Nat), .ref u])) := e3.trans (Ex.new hU)
      have hb := T.at_ _ (List.mem_of_getElem? htt)
      refine g_idx2 upd_same (eT _ _ hu) ?_
      refine q_when (b := false) (et_or (a := false) (et_not (a := true) (et_B (ev_call (ea_cons (ev_var rfl) (ea_cons ev_c (ea_cons (ev_sub (hnet0 rfl eT) ev_c) ea_nil))) fun H4 e4 Q qq E => ⟨(tt.1 : Nat), 0, (n : Int) - 1, rfl, by omega, by omega, qq H4 (Ex.refl _)⟩)))
        fun _ => et_not (a := true) (et_B (ev_call (ea_cons (ev_var rfl) (ea_cons ev_c (ea_cons ev_c ea_nil))) fun H4 e4 Q qq E => ⟨tt.2, 0, 99, rfl, hb.2.1, hb.2.2, qq H4 (Ex.refl _)⟩))) (fun z => nomatch z) fun _ H4 e4 => ?_
      have e5 := eT.trans e4
      refine s_when (b := false) ?_ (fun z => nomatch z) fun _ H6 e6 => ⟨e5.trans e6, _, _, _, rfl⟩
      by_cases hi : 0 < i
      · have hi2 : i - 1 < tops.length := by
          have := (List.getElem?_eq_some_iff.mp htt).1
          omega
        obtain ⟨y, hy, u', rfl, hu'⟩ := pr_at hw (List.getElem?_eq_getElem hi2)
        have hlt : (tops[i - 1]'hi2).1 < tt.1 := by
          have h0 := (List.getElem?_eq_some_iff.mp htt)
          have := (List.pairwise_iff_getElem.mp T.asc) (i - 1) i hi2 h0.1 (by omega)
          rw [h0.2] at this
          exact this
        refine et_and (a := true) (et_is (et_test (ev_gt (ev_var rfl) ev_c)) (by simp; omega)) fun _ => et_is (et_test (ev_le (ev_var rfl) (ev_op (ev_op (ev_var rfl) (ev_sub (ev_var rfl) ev_c) (rv_ixT (.inl (ex_rd e5 hq)) (v := .ref u') ?_)) ev_c (rv_ixT (st_of (e5 _ _ hu')) (at_of (j := 0) rfl))))) ?_
        · rw [show ((i : Nat) : Int) - 1 = ((i - 1 : Nat) : Int) by omega]
          exact at_of hy
        · simp
          omega
      · exact et_is (et_and (b := true) (et_test (ev_gt (ev_var rfl) ev_c)) fun z => absurd z (by simp; omega)) (by simp; omega)
    · rintro σ3 H3 ⟨e3, y2, y3, y4, rfl⟩
      refine ⟨.ref p, rfl, .ref p, n, rods, rfl, hnet'.mono e3, N, fun H4 u e4 hu => k H4 u (e3.trans e4) hu⟩
theorem sc_clash_of : FnScope ["table", "tops", "at", "one", "height", "other", "level"] ["table", "tops"] (defScope (topS 22)) := ⟨rfl, rfl, rfl, by decide +kernel, rfl, by decide +kernel, by decide +kernel⟩
def spClash : Sp := fun vs H Q _ => ∃ (u t : V) (n : Nat) (B : Tab) (tops : List Top), vs = [u, t] ∧ TabP n H B u ∧ TopsP H tops t ∧ (∀ x ∈ tops, x.1 < n) ∧ tops.length ≤ 1000 ∧ ∀ H' v, Ex H H' → OptP PlP H' (clashes B tops).head? v → Q v H'
theorem ok_clash_of (D : Dv K mg "clash_of" (topS 22) ["table", "tops"]) (G : Glob mg) : Ca P w K mg base 1 "clash_of" spClash := by
  refine dv_ok D sc_clash_of (fun vs H Q E h => ?_) (fun f cdv A outer s H vs Q E hr h => ?_)
  · obtain ⟨u, t, n, B, tops, rfl, _⟩ := h
    rfl
  · obtain ⟨u, t, n, B, tops, rfl, hT, ⟨q, ws, rfl, hq, hw⟩, hb, hl, k⟩ := h
    refine ⟨_, (pss_cons (ps_for PassesOwn.never rfl (pi_enumT (by rfl) G.enumerate_ (pa_cons (pv 1) pa_nil)) (pg_tup rfl (pgs_cons (pg_name (i := 2) sc_clash_of.nd rfl (Or.inl rfl)) (pgs_cons (pg_tup rfl (pgs_cons (pg_name (i := 3) sc_clash_of.nd rfl (Or.inl rfl)) (pgs_cons (pg_name (i := 4) sc_clash_of.nd rfl (Or.inl rfl)) pgs_nil))) pgs_nil))) (pss_one (ps_for PassesOwn.never rfl (pi_tup (pe_slice sl_tup (pv 1) (po_some (pe_op op_add (pv 2) pe_int)) po_none)) (pg_tup rfl (pgs_cons (pg_name (i := 5) sc_clash_of.nd rfl (Or.inl rfl)) (pgs_cons (pg_name (i := 6) sc_clash_of.nd rfl (Or.inl rfl)) pgs_nil))) (pss_one (ps_if (pt_cmpR op_ge (pe_callB call_abs (by rfl) G.abs_ (by decide +kernel) (pa_cons (pe_op op_sub (pv 4) (pv 6)) pa_nil)) (pe_ix ix_list (pe_ix ix_list (pv 0) (pv 3) (fun _ _ => rfl)) (pv 5) (fun _ _ => rfl)) (nomark _)) (pss_one (ps_ret (pe_tup (pa_cons (pv 3) (pa_cons (pv 5) pa_nil))))) pss_nil)))))
      (pss_one (ps_ret pe_non))), ?_⟩
    have hwl := pr_len hw
    refine q_forE (ea_cons (ev_var rfl) ea_nil) (.inl hq) (fun i σ' H' => Ex H H' ∧ clashes B tops = clashes B (tops.drop i) ∧ ∃ y2 y3 y4 y5 y6, σ' = [some u, some (.ref q), y2, y3, y4, y5, y6]) (fun H1 e1 => ⟨e1, rfl, _, _, _, _, _, rfl⟩) (fun i σ' H' _ z => .inl (ex_rd z.1 hq)) ?_ ?_
    · rintro i x σ' H' U hx ⟨e1, hc, y2, y3, y4, y5, y6, rfl⟩ hU
      obtain ⟨tt, r, htt, rfl, hr⟩ := top_at hw hx
      have eT : Ex H (upd H' U (.tup [.int (i : Nat), .ref r])) := e1.trans (Ex.new hU)
      have hi := (List.getElem?_eq_some_iff.mp htt).1
      refine g_idx2 upd_same (eT _ _ hr) ?_
      have hdrop : tops.drop i = tt :: tops.drop (i + 1) := by
        rw [List.drop_eq_getElem_cons hi]
        congr 1
        exact (List.getElem?_eq_some_iff.mp htt).2
      have htb := hb tt (List.mem_of_getElem? htt)
      have hcut : cutV ws (some ((i : Nat) + 1 : Int)) none = ws.drop (i + 1) := by
        unfold cutV
        rw [show ((i : Nat) : Int) + 1 = ((i + 1 : Nat) : Int) by omega, HT.sIx_nat, HT.sIx_none, show min (i + 1) ws.length = i + 1 by omega]
        exact List.take_of_length_le (by rw [List.length_drop]; omega)
      have hsl := eu_sl (K := K) (H := upd H' U (.tup [.int (i : Nat), .ref r])) (σ := [some u, some (.ref q), some (.int (i : Nat)), some (.int (tt.1 : Nat)), some (.int tt.2), y5, y6]) (te := tVar 1) (tl := tPart (tOp (rI0 fun i j => .int (i + j)) (tVar 2) (tC (.int 1)))) (th := tNoPart) (ev_var rfl) (eo_some (ev_add (ev_var rfl) ev_c)) eo_none (.inl (ex_rd eT hq)) (by
        rw [show ((i : Nat) : Int) + 1 = ((i + 1 : Nat) : Int) by omega, HT.sIx_nat]
        omega)
      rw [hcut] at hsl
      refine s_forNT hsl (fun p j σ' H' => Ex H H' ∧ H' p = some (.tup (ws.drop (i + 1))) ∧ (∀ k x, k < j → (tops.drop (i + 1))[k]? = some x → touch B tt x = false) ∧ ∃ y5 y6, σ' = [some u, some (.ref q), some (.int (i : Nat)), some (.int (tt.1 : Nat)), some (.int tt.2), y5, y6])
        (fun p H2 hp e2 h2 => ⟨eT.trans e2, h2, fun k x hk => absurd hk (Nat.not_lt_zero _), _, _, rfl⟩) (fun p j σ' H' _ z => st_of z.2.1) ?_ ?_
      · rintro p j x σ' H' hx ⟨e2, hp, hno, y5, y6, rfl⟩
        obtain ⟨t2, r2, ht2, rfl, hr2⟩ := top_at (pr_drop (i + 1) hw) hx
        have ht2b := hb t2 (List.mem_of_mem_drop (List.mem_of_getElem? ht2))
        refine g_two (e2 _ _ hr2) ?_
        have hcell := ev_cell (K := K) (ta := tVar 0) (tb := tVar 3) (tc := tVar 5) (σ := [some u, some (.ref q), some (.int (i : Nat)), some (.int (tt.1 : Nat)), some (.int tt.2), some (.int (t2.1 : Nat)), some (.int t2.2)]) (ev_var rfl) (ev_var rfl) (ev_var rfl) (hT.mono e2) htb ht2b
        refine s_when (b := touch B tt t2) (et_test (ev_ge (ev_abs (ev_sub (ev_var rfl) (ev_var rfl))) hcell)) (fun hyes H3 e3 => ?_) fun hnot H3 e3 => ⟨e2.trans e3, e3 _ _ hp, fun k x hk hx' => ?_, _, _, rfl⟩
        · refine s_retU (eu_tup (ea_cons (ev_var rfl) (ea_cons (ev_var rfl) ea_nil)) (by show 2 ≤ 100000; omega)) fun o H4 ho e4 h4 => k H4 _ ((e2.trans e3).trans e4) ?_
          have : (clashes B tops).head? = some (tt.1, t2.1) := by
            rw [hc, hdrop]
            show (((tops.drop (i + 1)).filter (touch B tt)).map (fun u => (tt.1, u.1)) ++ clashes B (tops.drop (i + 1))).head? = _
            rw [List.head?_append, List.head?_map, head_filter (touch B tt) _ j t2 hno ht2 hyes]
            rfl
          rw [this]
          exact ⟨o, rfl, h4⟩
        · by_cases c : k < j
          · exact hno k x c hx'
          · have : k = j := by omega
            subst this
            rw [ht2] at hx'
            cases hx'
            exact hnot
      · rintro p σ' H' ⟨e2, hp, hno, y5, y6, rfl⟩
        refine ⟨e2, ?_, _, _, _, _, _, rfl⟩
        rw [hc, hdrop]
        show ((tops.drop (i + 1)).filter (touch B tt)).map (fun u => (tt.1, u.1)) ++ clashes B (tops.drop (i + 1)) = _
        have : (tops.drop (i + 1)).filter (touch B tt) = [] := by
          rw [List.filter_eq_nil_iff]
          intro x hx
          obtain ⟨k, hk, rfl⟩ := List.getElem_of_mem hx
          rw [hno k _ (by rw [← pr_len (pr_drop (i + 1) hw)]; exact hk) (List.getElem?_eq_getElem hk)]
          decide
        rw [this]
        rfl
    · rintro σ' H' ⟨e1, hc, y2, y3, y4, y5, y6, rfl⟩
      refine k H' _ e1 ?_
      rw [hc, ← hwl, List.drop_length]
      rfl
theorem sc_covers_of : FnScope ["table", "tops", "places", "found", "place", "told", "height", "one"] ["table", "tops"] (defScope (topS 21)) := ⟨rfl, rfl, rfl, by decide +kernel, rfl, by decide +kernel, by decide +kernel⟩
def spCovers : Sp := fun vs H Q _ => ∃ (u t : V) (n : Nat) (B : Tab) (tops : List Top), vs = [u, t] ∧ TabP n H B u ∧ TopsP H tops t ∧ (∀ x ∈ tops, x.1 < n) ∧ tops ≠ [] ∧ tops.length ≤ 1000 ∧ n ≤ 1000 ∧ ∀ H' d, Ex H H' → H d = none → H' d = some (.dK (coversL n B tops)) → Q (.ref d) H'
theorem ok_covers_of (D : Dv K mg "covers_of" (topS 21) ["table", "tops"]) (G : Glob mg) : Ca P w K mg base 1 "covers_of" spCovers := by
  refine dv_ok D sc_covers_of (fun vs H Q E h => ?_) (fun f cdv A outer s H vs Q E hr h => ?_)
  · obtain ⟨u, t, n, B, tops, rfl, _⟩ := h
    rfl
  · obtain ⟨u, t, n, B, tops, rfl, hT, ⟨q, ws, rfl, hq, hw⟩, hb, hne, hl, hn, k⟩ := h
    refine ⟨_, (pss_cons (ps_par (i := 2) (j := 3) rfl sc_covers_of.nd rfl rfl (by decide) rfl rfl (pa_cons (pe_lc (own := [("place", 4), ("height", 6)]) (g := (gTup K 2 (gCons (gName 4) (gCons (gName 6) gNil)))) (tt := tYes) rfl sc_covers_of.nd (pi_tup (pv 1)) (blkOk_by (own := [("place", 4), ("height", 6)]) (N := ["table", "tops", "places", "found", "place", "told", "height", "one"]) (sc := (defScope (topS 21))) (by decide +kernel)) (fun _ _ _ _ _ => (pg_tup rfl (pgs_cons (pg_name (i := 4) sc_covers_of.nd rfl (Or.inl rfl)) (pgs_cons (pg_name (i := 6) sc_covers_of.nd rfl (Or.inl rfl)) pgs_nil)))) (fun _ _ _ _ _ => pts_nil) (fun _ _ _ _ _ => (pv 4))) (pa_cons pe_dnewK pa_nil)) (by rfl))
      (pss_cons (ps_for PassesOwn.never rfl (pi_range1 (by rfl) G.range_ (pa_cons (pe_callB call_len_seq (by rfl) G.len_ (by decide +kernel) (pa_cons (pv 0) pa_nil)) pa_nil)) (pg_name (i := 4) sc_covers_of.nd rfl (Or.inr rfl)) (pss_one (ps_if (pt_cmpR op_notIn_seq (pv 4) (pv 2) (by rfl)) (pss_cons (ps_set (i := 5) sc_covers_of.nd rfl (Or.inl rfl) (pe_callB (cr_max rfl) (by rfl) G.max_ (by decide +kernel) (pa_cons (pe_lc (own := [("one", 7), ("height", 6)]) (g := (gTup K 2 (gCons (gName 7) (gCons (gName 6) gNil)))) (tt := tYes) rfl sc_covers_of.nd (pi_tup (pv 1)) (blkOk_by (own := [("one", 7), ("height", 6)]) (N := ["table", "tops", "places", "found", "place", "told", "height", "one"]) (sc := (defScope (topS 21))) (by decide +kernel)) (fun _ _ _ _ _ => (pg_tup rfl (pgs_cons (pg_name (i := 7) sc_covers_of.nd rfl (Or.inl rfl)) (pgs_cons (pg_name (i := 6) sc_covers_of.nd rfl (Or.inl rfl)) pgs_nil)))) (fun _ _ _ _ _ => pts_nil) (fun _ _ _ _ _ => (pe_op op_sub (pv 6) (pe_ix (ix_listK K) (pe_ix (ix_listK K) (pv 0) (pv 7) (fun _ _ => rfl)) (pv 4) (fun _ _ => rfl))))) pa_nil)))
      (pss_one (ps_dput (hu_of hr) (pv 3) (pv 4) (pe_ifExp (pt_cmpR op_ge (pv 5) pe_int (nomark _)) (pv 5) pe_non) rfl))) pss_nil)))
      (pss_one (ps_ret (pv 3))))), ?_⟩
    have hwl := pr_len hw
    have hplaces := el_lcW (H := H) (walks_tup (K := K) (ev_var (σ := [some u, some (.ref q), none, none, none, none, none, none]) (i := 1) rfl) (.inl hq)) (by omega) (g := gTup K 2 (gCons (gName 4) (gCons (gName 6) gNil))) (vs := [4, 6]) (t := tYes) (te := tVar 4)
      (fun j y => [some u, some (.ref q), none, none, some (.int ((tops.getD j (0, 0)).1 : Nat)), none, some (.int (tops.getD j (0, 0)).2), none]) (fun j y H2 e hy Q qq => by
        obtain ⟨t2, r2, ht2, rfl, hr2⟩ := top_at hw hy
        refine g_two (e _ _ hr2) ?_
        rw [List.getD_eq_getElem?_getD, ht2] at qq
        exact qq) (fun _ _ _ => rfl) (fun _ => true) (fun j => .int ((tops.getD j (0, 0)).1 : Nat)) (fun _ _ _ _ _ => et_yes) (fun j y H2 e hy _ => ev_var rfl)
    rw [given_all, ← hwl, range_map_get tops (0, 0) (fun t : Top => V.int (t.1 : Nat))] at hplaces
    refine q_par (c_consL hplaces fun pa H1 hpa e1 hp1 => c_dict fun d hd => ⟨.ref pa, .ref d, rfl, ?_⟩)
    have ex2 : Ex H (upd H1 d (.dK [])) := e1.trans (Ex.new hd)
    have hpl : (upd H1 d (.dK [])) pa = some (.lst ((places tops).map fun p : Nat => V.int p)) := by
      rw [upd_ne (ne_of_none hp1 hd), hp1]
      unfold places
      rw [List.map_map]
      rfl
    obtain ⟨tb, rws, rfl, htb, hrl, hrows⟩ := id hT
    have hd0 : H d = none := fresh_back e1 hd
    refine q_forR1 (n := n) (ea_cons (ev_is (ev_len2 (ev_var rfl) (.inl (sq_of (ex2 _ _ htb)))) (by rw [hrl])) ea_nil) (by omega) (fun i σ' H' => Ex H H' ∧ H' pa = some (.lst ((places tops).map fun p : Nat => V.int p)) ∧ H' d = some (.dK (coversL i B tops)) ∧ ∃ y4 y5, σ' = [some (.ref tb), some (.ref q), some (.ref pa), some (.ref d), y4, y5, none, none])
      (fun H2 e2 => ⟨ex2.trans e2, e2 _ _ hpl, e2 _ _ upd_same, _, _, rfl⟩) ?_ ?_
    · rintro i σ' H' hi ⟨e2, hpl2, hd2, y4, y5, rfl⟩
      have hi' : i < n := by omega
      refine s_when (et_test (ev_notInL (ev_var rfl) (ev_var rfl) (sq_of hpl2))) (fun hyes H3 e3 => ?_) fun hno H3 e3 => ⟨e2.trans e3, e3 _ _ hpl2, ?_, _, _, rfl⟩
      · have hyes : i ∉ places tops := by simpa using hyes
        have hmax := el_lcW (H := H3) (walks_tup (K := K) (ev_var (σ := [some (.ref tb), some (.ref q), some (.ref pa), some (.ref d), some (.int (i : Nat)), y5, none, none]) (i := 1) rfl) (.inl (ex_rd (e2.trans e3) hq))) (by omega) (g := gTup K 2 (gCons (gName 7) (gCons (gName 6) gNil))) (vs := [7, 6]) (t := tYes) (te := tOp (rI0 fun i j => .int (i - j)) (tVar 6) (tOp (rIxL K) (tOp (rIxL K) (tVar 0) (tVar 7)) (tVar 4)))
          (fun j y => [some (.ref tb), some (.ref q), some (.ref pa), some (.ref d), some (.int (i : Nat)), y5, some (.int (tops.getD j (0, 0)).2), some (.int ((tops.getD j (0, 0)).1 : Nat))]) (fun j y H4 e hy Q qq => by
            obtain ⟨t2, r2, ht2, rfl, hr2⟩ := top_at hw hy
            refine g_two (e _ _ (e3 _ _ (e2 _ _ hr2))) ?_
            rw [List.getD_eq_getElem?_getD, ht2] at qq
            exact qq) (fun _ _ _ => rfl) (fun _ => true) (fun j => .int ((tops.getD j (0, 0)).2 - B (tops.getD j (0, 0)).1 i)) (fun _ _ _ _ _ => et_yes) (fun j y H4 e hy _ => by
              obtain ⟨t2, r2, ht2, rfl, hr2⟩ := top_at hw hy
              have hj : tops.getD j (0, 0) = t2 := by rw [List.getD_eq_getElem?_getD, ht2]; rfl
              rw [hj]
              exact ev_sub (ev_var rfl) (ev_cell (ev_var rfl) (ev_var rfl) (ev_var rfl) (hT.mono ((e2.trans e3).trans e)) (hb t2 (List.mem_of_getElem? ht2)) hi'))
        rw [given_all, ← hwl, range_map_get tops (0, 0) (fun t : Top => V.int (t.2 - B t.1 i))] at hmax
        rw [show (tops.map fun t : Top => V.int (t.2 - B t.1 i)) = (tops.map fun t : Top => t.2 - B t.1 i).map V.int by rw [List.map_map]; rfl] at hmax
        refine q_asg (ev_max hmax (by simpa using hne)) fun H4 e4 => ?_
        have hv : Ev (tIf (tTest (tOp (rI0 fun i j => .bl (decide (j ≤ i))) (tVar 5) (tC (.int 0)))) (tVar 5) (tC .non)) [some (.ref tb), some (.ref q), some (.ref pa), some (.ref d), some (.int (i : Nat)), some (.int (lmax (tops.map fun t => t.2 - B t.1 i))), none, none] H4 (coverV B tops i) := by
          refine ev_if (et_test (ev_ge (ev_var rfl) ev_c)) (fun hb => ?_) (fun hb => ?_)
          · have : 0 ≤ cov B tops i := of_decide_eq_true hb
            unfold coverV
            rw [if_pos this]
            exact ev_var rfl
          · have : ¬ 0 ≤ cov B tops i := of_decide_eq_false hb
            unfold coverV
            rw [if_neg this]
            exact ev_c
        refine hv H4 (Ex.refl _) _ fun H5 e5 => ?_
        have hd5 : H5 d = some (.dK (coversL i B tops)) := e5 _ _ (e4 _ _ (e3 _ _ hd2))
        have hnew : valV (coversL i B tops) (Sum.inl (i : Int)) = none := by
          unfold coversL
          rw [valV_rest, if_neg fun z => by have := (mem_rest.mp z).1; omega]
        have hcl : (coversL i B tops).length ≤ 1000 := by
          unfold coversL
          rw [List.length_map]
          have := rest_len i tops
          omega
        refine ⟨.ref d, rfl, .int (i : Nat), rfl, d, _, rfl, DPut.k (k := Sum.inl (i : Int)) hd5 (small1000 hcl), ?_⟩
        have e6 : Ex H H5 := ((e2.trans e3).trans e4).trans e5
        refine ⟨Ex.mut e6 hd0, ?_, ?_, _, _, rfl⟩
        · rw [upd_ne (ne_of (e5 _ _ (e4 _ _ (e3 _ _ hpl2))) hd5 (by intro z; cases z))]
          exact e5 _ _ (e4 _ _ (e3 _ _ hpl2))
        · rw [upd_same, putK_new _ hnew, coversL_succ, if_neg hyes]
      · have hno : i ∈ places tops := by simpa using hno
        rw [coversL_succ, if_pos hno, List.append_nil]
        exact e3 _ _ hd2
    · rintro σ' H' ⟨e2, hpl2, hd2, y4, y5, rfl⟩
      rw [show ((n : Nat) : Int).toNat = n by omega] at hd2
      exact ⟨.ref d, rfl, k H' d e2 hd0 hd2⟩
end
end K8
/-! tops_clash, open_places, number_with_tops, lifted, settled -/
namespace K8
open PySem PySem.Spec PyProof.Rows L2 Evl
structure Pre (H : Hp) (n : Nat) (rods : List Rod) (tops : List Top) (v t : V) : Prop where
  net : NetP H n rods v
  ok : NetOk n rods
  tup : TopsP H tops t
  tok : TopsOk n 99 tops
theorem Pre.mono {H H' : Hp} {n : Nat} {rods : List Rod} {tops : List Top} {v t : V} (p : Pre H n rods tops v t) (e : Ex H H') : Pre H' n rods tops v t := ⟨p.net.mono e, p.ok, p.tup.mono e, p.tok⟩
theorem Pre.lt {H : Hp} {n : Nat} {rods : List Rod} {tops : List Top} {v t : V} (p : Pre H n rods tops v t) : ∀ x ∈ tops, x.1 < n := fun x hx => (p.tok.at_ x hx).1
theorem Pre.len {H : Hp} {n : Nat} {rods : List Rod} {tops : List Top} {v t : V} (p : Pre H n rods tops v t) : tops.length ≤ 4 := by
  have := tops_len p.tok
  have := p.ok.n4
  omega
def opens (n : Nat) (D : Tab) (tops : List Top) : List Nat := (rest n tops).filter fun q => decide (cov D tops q < 0)
theorem ex_unlock {H H' : Hp} {d : Addr} {o : Obj} {u : HO} (hd : H d = some u) (e : Ex (upd H d (.frz o u)) H') : Ex H (upd H' d u) := fun a x h => by
  by_cases c : a = d
  · subst c
    rw [upd_same, ← hd, h]
  · rw [upd_ne c]
    exact e _ _ (by rw [upd_ne c]; exact h)
section
variable {K : PySem.W.Frag} {σ : L2.St} {H : Hp} {td : TE} {D : Ends} {tu tz : TS} {d : Addr} {kvs : List (Key × V)} {o : Obj} {j : Nat} {t : TS}
theorem q_lock (hd : H d = some (.dK kvs)) (h : ∀ od, t ⟨fun σ' H' => H' d = some (.frz od (.dK kvs)) ∧ tz D σ' (upd H' d (.dK kvs)), fun v H' => H' d = some (.frz od (.dK kvs)) ∧ D.rt v (upd H' d (.dK kvs)), fun σ' H' => H' d = some (.frz od (.dK kvs)) ∧ D.bk σ' (upd H' d (.dK kvs)), fun σ' H' => H' d = some (.frz od (.dK kvs)) ∧ D.ct σ' (upd H' d (.dK kvs))⟩ σ (upd H d (.frz od (.dK kvs)))) : tSeq (tLock t) tz D σ H := ⟨d, _, hd, True.intro, h⟩
theorem s_forKeys (h : Ev td σ H (.ref d)) (hd : H d = some (.frz o (.dK kvs))) (Pv : Nat → L2.St → Hp → Prop) (h0 : ∀ H1, Ex H H1 → Pv 0 σ H1) (hl : ∀ i σ' H', i ≤ kvs.length → Pv i σ' H' → H' d = some (.frz o (.dK kvs)))
    (hs : ∀ i k v σ' H', kvs[i]? = some (k, v) → Pv i σ' H' → tu { D with nx := Pv (i + 1), ct := Pv (i + 1), bk := D.nx } (σ'.set j (some (kV k))) H') (hf : ∀ σ' H', Pv kvs.length σ' H' → D.nx σ' H') : tFor (iKeys td) (gName j) tu D σ H :=
  h H (Ex.refl H) _ fun H1 e => ⟨d, o, rfl, .inl ⟨kvs, e _ _ hd, for_it walk_keys Pv (h0 H1 e) hl (fun i x σ' H' H2 hi p y => by
    obtain ⟨rfl, k, v, hk, rfl⟩ := y
    exact hs i k v σ' H2 hk p) hf⟩⟩
end
section
variable {P : Program} {w : World} {K : PySem.W.Frag} {mg : Str → Option Value} {base : Heap}
/-- the two calls that most begin with -/
theorem ev_table {σ : L2.St} {H : Hp} {n : Nat} {rods : List Rod} {tops : List Top} {v t : V} {t1 t2 : TE} (p : Pre H n rods tops v t) (h1 : Ev t1 σ H v) (h2 : Ev t2 σ H t) : EvP (tCall spNeedTops [] E0 (tCons t1 (tCons t2 tNil))) σ H fun H2 u => TabP n H2 (fw n rods) u :=
  evp_call (ea_cons h1 (ea_cons h2 ea_nil)) fun H1 e Q q E => by
    have p' := p.mono e
    exact ⟨v, t, n, rods, tops, rfl, p'.net, p'.ok, p'.tup, p'.tok, fun H2 u e2 hu => q u H2 e2 hu⟩
theorem ev_clash {σ : L2.St} {H : Hp} {n : Nat} {rods : List Rod} {tops : List Top} {v t u : V} {B : Tab} {t1 t2 : TE} (p : Pre H n rods tops v t) (hT : TabP n H B u) (h1 : Ev t1 σ H u) (h2 : Ev t2 σ H t) : EvP (tCall spClash [] E0 (tCons t1 (tCons t2 tNil))) σ H fun H2 r => OptP PlP H2 (clashes B tops).head? r :=
  evp_call (ea_cons h1 (ea_cons h2 ea_nil)) fun H1 e Q q E => by
    have p' := p.mono e
    exact ⟨u, t, n, B, tops, rfl, hT.mono e, p'.tup, p'.lt, by have := p.len; omega, fun H2 r e2 hr => q r H2 e2 hr⟩
theorem ev_covers {σ : L2.St} {H : Hp} {n : Nat} {rods : List Rod} {tops : List Top} {v t u : V} {B : Tab} {t1 t2 : TE} (p : Pre H n rods tops v t) (hT : TabP n H B u) (h1 : Ev t1 σ H u) (h2 : Ev t2 σ H t) : EvP (tCall spCovers [] E0 (tCons t1 (tCons t2 tNil))) σ H fun H2 r => ∃ d, r = .ref d ∧ H d = none ∧ H2 d = some (.dK (coversL n B tops)) :=
  evp_call (ea_cons h1 (ea_cons h2 ea_nil)) fun H1 e Q q E => by
    have p' := p.mono e
    exact ⟨u, t, n, B, tops, rfl, hT.mono e, p'.tup, p'.lt, p.tok.ne, by have := p.len; omega, by have := p.ok.n4; omega, fun H2 d e2 hd h2 => q _ H2 e2 ⟨d, rfl, fresh_back e hd, h2⟩⟩
theorem clash_none {H : Hp} {B : Tab} {tops : List Top} {r : V} (h : OptP PlP H (clashes B tops).head? r) : decide (r = V.non) = decide (clashes B tops = []) := by
  cases e : clashes B tops with
  | nil =>
    rw [e] at h
    have : r = .non := h
    rw [this]
    rfl
  | cons a l =>
    rw [e] at h
    obtain ⟨p, rfl, _⟩ : PlP H a r := h
    rfl
theorem sc_tops_clash : FnScope ["net", "tops"] ["net", "tops"] (defScope (topS 23)) := ⟨rfl, rfl, rfl, by decide +kernel, rfl, by decide +kernel, by decide +kernel⟩
def spTopsClash : Sp := fun vs H Q _ => ∃ (v t : V) (n : Nat) (rods : List Rod) (tops : List Top), vs = [v, t] ∧ Pre H n rods tops v t ∧ ∀ H' r, Ex H H' → OptP PlP H' (clashes (fw n rods) tops).head? r → Q r H'
theorem ok_tops_clash (D : Dv K mg "tops_clash" (topS 23) ["net", "tops"]) (G : Glob mg) (c_need_tops : Ca P w K mg base 4 "need_tops" spNeedTops) (c_clash_of : Ca P w K mg base 1 "clash_of" spClash) : Ca P w K mg base 5 "tops_clash" spTopsClash := by
  refine dv_ok D sc_tops_clash (fun vs H Q E h => ?_) (fun f cdv A outer s H vs Q E hr h => ?_)
  · obtain ⟨v, t, n, rods, tops, rfl, _⟩ := h
    rfl
  · obtain ⟨v, t, n, rods, tops, rfl, p, k⟩ := h
    refine ⟨_, (pss_one (ps_ret (C8.pe_c c_clash_of hr (by decide) rfl (pa_cons (C8.pe_c c_need_tops hr (by decide) rfl (pa_cons (pv 0) (pa_cons (pv 1) pa_nil))) (pa_cons (pv 1) pa_nil))))), ?_⟩
    refine s_retP (evp_call2 (v2 := t) (ev_table p (ev_var rfl) (ev_var rfl)) (fun H1 H2 v e h => h.mono e) (ev_var rfl) fun u H1 e hu Q q E => ?_) fun r H1 e hr => k H1 r e hr
    have p' := p.mono e
    exact ⟨u, t, n, fw n rods, tops, rfl, hu, p'.tup, p'.lt, by have := p.len; omega, fun H2 r e2 hr => q r H2 e2 hr⟩
theorem sc_open_places : FnScope ["net", "tops", "covers", "place"] ["net", "tops"] (defScope (topS 24)) := ⟨rfl, rfl, rfl, by decide +kernel, rfl, by decide +kernel, by decide +kernel⟩
def spOpen : Sp := fun vs H Q _ => ∃ (v t : V) (n : Nat) (rods : List Rod) (tops : List Top), vs = [v, t] ∧ Pre H n rods tops v t ∧ ∀ H' r, Ex H H' → H' r = some (.tup ((opens n (fw n rods) tops).map fun q : Nat => V.int q)) → Q (.ref r) H'
theorem ok_open_places (D : Dv K mg "open_places" (topS 24) ["net", "tops"]) (G : Glob mg) (c_need_tops : Ca P w K mg base 4 "need_tops" spNeedTops) (c_covers_of : Ca P w K mg base 1 "covers_of" spCovers) : Ca P w K mg base 5 "open_places" spOpen := by
  refine dv_ok D sc_open_places (fun vs H Q E h => ?_) (fun f cdv A outer s H vs Q E hr h => ?_)
  · obtain ⟨v, t, n, rods, tops, rfl, _⟩ := h
    rfl
  · obtain ⟨v, t, n, rods, tops, rfl, p, k⟩ := h
    refine ⟨_, (pss_cons (ps_set (i := 2) sc_open_places.nd rfl (Or.inr rfl) (C8.pe_c c_covers_of hr (by decide) rfl (pa_cons (C8.pe_c c_need_tops hr (by decide) rfl (pa_cons (pv 0) (pa_cons (pv 1) pa_nil))) (pa_cons (pv 1) pa_nil))))
      (pss_one (ps_ret (pe_callTy call_tuple_of (by rfl) G.tuple_ (by decide +kernel) (pa_cons (pe_lc (own := [("place", 3)]) (g := (gName 3)) rfl sc_open_places.nd (pi_list (pe_callB (call_sortedDI rfl) (by rfl) G.sorted_ (by decide +kernel) (pa_cons (pv 2) pa_nil))) (blkOk_by (own := [("place", 3)]) (N := ["net", "tops", "covers", "place"]) (sc := (defScope (topS 24))) (by decide +kernel)) (fun _ _ _ _ _ => (pg_name (i := 3) sc_open_places.nd rfl (Or.inl rfl))) (fun _ _ _ _ _ => (pts_one (pt_cmpR op_isN (pe_dget (hu_of hr) (pv 2) (pv 3) (fun _ _ => rfl)) pe_non (nomark _)))) (fun _ _ _ _ _ => (pv 3))) pa_nil))))), ?_⟩
    refine q_asgP (P := fun H2 r => ∃ d, r = .ref d ∧ H d = none ∧ H2 d = some (.dK (coversL n (fw n rods) tops))) (evp_call2 (v2 := t) (ev_table p (ev_var rfl) (ev_var rfl)) (fun H1 H2 v e h => h.mono e) (ev_var rfl) fun u H1 e hu Q q E => ?_) fun c H1 e1 hc => ?_
    · have p' := p.mono e
      exact ⟨u, t, n, fw n rods, tops, rfl, hu, p'.tup, p'.lt, p.tok.ne, by have := p.len; omega, by have := p.ok.n4; omega, fun H2 d e2 hd h2 => q _ H2 e2 ⟨d, rfl, fresh_back e hd, h2⟩⟩
    · obtain ⟨d, rfl, hd0, hd⟩ := hc
      have hks : (coversL n (fw n rods) tops).map (·.1) = ((rest n tops).map fun q : Nat => (q : Int)).map Sum.inl := by
        unfold coversL
        rw [List.map_map, List.map_map]
        rfl
      have hrise : (rest n tops).Pairwise (· < ·) := (range_rise n).filter _
      have hso := el_sortedD (H := H1) (td := tVar 2) (σ := [some v, some t, some (.ref d), none]) (ev_var rfl) hd hks (by rw [List.length_map]; have := rest_len n tops; have := p.ok.n4; omega) (List.pairwise_map.mpr (hrise.imp fun h => by omega))
      rw [List.map_map] at hso
      have hcomp := el_nats (l := rest n tops) (walks_listN (K := K) hso) (by have := rest_len n tops; have := p.ok.n4; omega) (i := 3) (vs := [3]) (fun _ => rfl) (fun q => decide (cov (fw n rods) tops q < 0)) (fun q => V.int (q : Nat)) (tt := tTest (tOp (fun x y H Q => y = .non ∧ Q (.bl (decide (x = .non))) H) (tDGet (tVar 2) (tVar 3)) (tC .non))) (te := tVar 3)
        (fun q hq H2 e2 => et_isN (evp_of (ev_dget (ev_var rfl) (ev_var rfl) (.inl (e2 _ _ hd)) (covers_at hq))) fun H3 r _ hr => by
          subst hr
          unfold coverV
          by_cases c : 0 ≤ cov (fw n rods) tops q
          · rw [if_pos c]
            simp
            omega
          · rw [if_neg c]
            simp
            omega) (fun q hq H2 e2 _ => ev_var rfl)
      refine s_retU (eu_tupleOf hcomp) fun r H2 hr e2 h2 => k H2 r (e1.trans e2) h2
theorem sc_number_with_tops : FnScope ["net", "tops", "table", "covers", "found", "place"] ["net", "tops"] (defScope (topS 25)) := ⟨rfl, rfl, rfl, by decide +kernel, rfl, by decide +kernel, by decide +kernel⟩
def spNumber : Sp := fun vs H Q _ => ∃ (v t : V) (n : Nat) (rods : List Rod) (tops : List Top), vs = [v, t] ∧ Pre H n rods tops v t ∧ ∀ H', Ex H H' → Q (.int (number n (fw n rods) tops)) H'
theorem ok_number_with_tops (D : Dv K mg "number_with_tops" (topS 25) ["net", "tops"]) (G : Glob mg) (c_need_tops : Ca P w K mg base 4 "need_tops" spNeedTops) (c_covers_of : Ca P w K mg base 1 "covers_of" spCovers) (c_clash_of : Ca P w K mg base 1 "clash_of" spClash) : Ca P w K mg base 5 "number_with_tops" spNumber := by
  refine dv_ok D sc_number_with_tops (fun vs H Q E h => ?_) (fun f cdv A outer s H vs Q E hr h => ?_)
  · obtain ⟨v, t, n, rods, tops, rfl, _⟩ := h
    rfl
  · obtain ⟨v, t, n, rods, tops, rfl, p, k⟩ := h
    refine ⟨_, (pss_cons (ps_set (i := 2) sc_number_with_tops.nd rfl (Or.inl rfl) (C8.pe_c c_need_tops hr (by decide) rfl (pa_cons (pv 0) (pa_cons (pv 1) pa_nil))))
      (pss_cons (ps_par (i := 3) (j := 4) rfl sc_number_with_tops.nd rfl rfl (by decide) rfl rfl (pa_cons (C8.pe_c c_covers_of hr (by decide) rfl (pa_cons (pv 2) (pa_cons (pv 1) pa_nil))) (pa_cons pe_int pa_nil)) (by rfl))
      (pss_cons (ps_lock (ps_for PassesOwn.never rfl (pi_keys (pv 3)) (pg_name (i := 5) sc_number_with_tops.nd rfl (Or.inl rfl)) (pss_one (ps_aug (i := 4) sc_number_with_tops.nd rfl (Or.inl rfl) (pe_ifExp (pt_cmpR op_isN (pe_dget (hu_of hr) (pv 3) (pv 5) (fun _ _ => rfl)) pe_non (nomark _)) pe_int (pe_op op_add (pe_dget (hu_of hr) (pv 3) (pv 5) (fun _ _ => rfl)) pe_int)) ip_mulI))))
      (pss_one (ps_ret (pe_ifExp (pt_cmpR op_isN (C8.pe_c c_clash_of hr (by decide) rfl (pa_cons (pv 2) (pa_cons (pv 1) pa_nil))) pe_non (nomark _)) (pv 4) pe_int)))))), ?_⟩
    have M := fw_metric p.ok
    generalize hB : fw n rods = B at M
    refine q_asgP (ev_table p (ev_var rfl) (ev_var rfl)) fun u H1 e1 hu => ?_
    rw [hB] at hu
    refine q_par (c_consP (ev_covers (p.mono e1) hu (ev_var rfl) (ev_var rfl)) fun c H2 e2 hc => c_cons ev_c fun H3 e3 => c_nil ⟨_, _, rfl, ?_⟩)
    obtain ⟨d, rfl, hd0, hd⟩ := hc
    have hd3 := e3 _ _ hd
    have e03 := (e1.trans e2).trans e3
    refine q_lock hd3 fun od => ?_
    refine s_forKeys (H := upd H3 d (.frz od (.dK (coversL n B tops)))) (ev_var rfl) upd_same (fun i σ' H' => Ex (upd H3 d (.frz od (.dK (coversL n B tops)))) H' ∧ ∃ y5, σ' = [some v, some t, some u, some (.ref d), some (.int (((rest n tops).take i).foldl (mulAt B tops) 1)), y5])
      (fun H4 e4 => ⟨e4, _, rfl⟩) (fun i σ' H' _ z => z.1 _ _ upd_same) ?_ ?_
    · rintro i kk vv σ' H' hk ⟨e4, y5, rfl⟩
      unfold coversL at hk
      rw [List.getElem?_map] at hk
      cases hq : (rest n tops)[i]? with
      | none =>
        rw [hq] at hk
        cases hk
      | some q =>
        rw [hq] at hk
        cases hk
        have hqm := List.mem_of_getElem? hq
        have hget : ∀ H5, Ex H' H5 → Ev (tDGet (tVar 3) (tVar 5)) [some v, some t, some u, some (.ref d), some (.int (((rest n tops).take i).foldl (mulAt B tops) 1)), some (.int (q : Nat))] H5 (coverV B tops q) := fun H5 e5 => ev_dget (ev_var rfl) (ev_var rfl) (.inr ⟨od, e5 _ _ (e4 _ _ upd_same)⟩) (covers_at hqm)
        have hev : Ev (tIf (tTest (tOp (fun x y H Q => y = .non ∧ Q (.bl (decide (x = .non))) H) (tDGet (tVar 3) (tVar 5)) (tC .non))) (tC (.int 0)) (tOp (rI0 fun i j => .int (i + j)) (tDGet (tVar 3) (tVar 5)) (tC (.int 1)))) [some v, some t, some u, some (.ref d), some (.int (((rest n tops).take i).foldl (mulAt B tops) 1)), some (.int (q : Nat))] H' (.int (if 0 ≤ cov B tops q then cov B tops q + 1 else 0)) := by
          by_cases c : 0 ≤ cov B tops q
          · have hcv : coverV B tops q = .int (cov B tops q) := if_pos c
            rw [if_pos c]
            refine ev_if (b := false) (et_isN (evp_of (hget H' (Ex.refl _))) fun H3 r _ hr => by rw [hr, hcv]; rfl) (fun z => nomatch z) fun _ => ev_add (ev_is (hget H' (Ex.refl _)) hcv) ev_c
          · have hcv : coverV B tops q = .non := if_neg c
            rw [if_neg c]
            exact ev_if (b := true) (et_isN (evp_of (hget H' (Ex.refl _))) fun H3 r _ hr => by rw [hr, hcv]; rfl) (fun _ => ev_c) fun z => nomatch z
        refine ⟨_, rfl, hev H' (Ex.refl _) _ fun H5 e5 => ⟨_, _, rfl, rfl, ?_, e4.trans e5, some (.int (q : Nat)), ?_⟩⟩
        · have := cov_le M p.tok q
          split <;> omega
        · rw [foldl_take_succ _ _ hq]
          rfl
    · rintro σ' H' ⟨e4, y5, rfl⟩
      refine ⟨e4 _ _ upd_same, ?_⟩
      have e5 := ex_unlock hd3 e4
      have hfull : ((rest n tops).take (coversL n B tops).length).foldl (mulAt B tops) 1 = count n B tops := by
        unfold coversL count
        rw [List.length_map, List.take_length]
      rw [hfull]
      have p' := p.mono (e03.trans e5)
      have hu' := hu.mono ((e2.trans e3).trans e5)
      refine s_ret (v := .int (number n B tops)) (ev_if (b := decide (clashes B tops = [])) (et_isN (ev_clash p' hu' (ev_var rfl) (ev_var rfl)) fun H6 r _ hr => clash_none hr) (fun hb => ?_) fun hb => ?_) fun H6 e6 => ?_
      · unfold number
        rw [if_pos (by simpa using hb)]
        exact ev_var rfl
      · unfold number
        rw [if_neg (by simpa using hb)]
        exact ev_c
      · rw [← hB]
        exact k H6 ((e03.trans e5).trans e6)
end
end K8
/-! lifted, settled -/
namespace K8
open PySem PySem.Spec PyProof.Rows L2 Evl
theorem filter_all {α : Type} (l : List α) : l.filter (fun _ => true) = l := List.filter_eq_self.mpr fun _ _ => rfl
section
variable {P : Program} {w : World} {K : PySem.W.Frag} {mg : Str → Option Value} {base : Heap}
theorem sc_lifted : FnScope ["net", "tops", "table", "places", "rest", "needs", "place", "height", "one"] ["net", "tops"] (defScope (topS 27)) := ⟨rfl, rfl, rfl, by decide +kernel, rfl, by decide +kernel, by decide +kernel⟩
def spLifted : Sp := fun vs H Q _ => ∃ (v t : V) (n : Nat) (rods : List Rod) (tops : List Top), vs = [v, t] ∧ Pre H n rods tops v t ∧ ∀ H' r, Ex H H' → OptP IntP H' (lift n (fw n rods) tops) r → Q r H'
theorem ok_lifted (D : Dv K mg "lifted" (topS 27) ["net", "tops"]) (G : Glob mg) (c_need_tops : Ca P w K mg base 4 "need_tops" spNeedTops) (c_clash_of : Ca P w K mg base 1 "clash_of" spClash) : Ca P w K mg base 5 "lifted" spLifted := by
  refine dv_ok D sc_lifted (fun vs H Q E h => ?_) (fun f cdv A outer s H vs Q E hr h => ?_)
  · obtain ⟨v, t, n, rods, tops, rfl, _⟩ := h
    rfl
  · obtain ⟨v, t, n, rods, tops, rfl, p, k⟩ := h
    refine ⟨_, (pss_cons (ps_set (i := 2) sc_lifted.nd rfl (Or.inr rfl) (C8.pe_c c_need_tops hr (by decide) rfl (pa_cons (pv 0) (pa_cons (pv 1) pa_nil))))
      (pss_cons (ps_if (pt_cmpR op_notN (C8.pe_c c_clash_of hr (by decide) rfl (pa_cons (pv 2) (pa_cons (pv 1) pa_nil))) pe_non (nomark _)) (pss_one (ps_ret pe_non)) pss_nil)
      (pss_cons (ps_set (i := 3) sc_lifted.nd rfl (Or.inr rfl) (pe_lc (own := [("place", 6), ("height", 7)]) (g := (gTup K 2 (gCons (gName 6) (gCons (gName 7) gNil)))) (tt := tYes) rfl sc_lifted.nd (pi_tup (pv 1)) (blkOk_by (own := [("place", 6), ("height", 7)]) (N := ["net", "tops", "table", "places", "rest", "needs", "place", "height", "one"]) (sc := (defScope (topS 27))) (by decide +kernel)) (fun _ _ _ _ _ => (pg_tup rfl (pgs_cons (pg_name (i := 6) sc_lifted.nd rfl (Or.inl rfl)) (pgs_cons (pg_name (i := 7) sc_lifted.nd rfl (Or.inl rfl)) pgs_nil)))) (fun _ _ _ _ _ => pts_nil) (fun _ _ _ _ _ => (pv 6))))
      (pss_cons (ps_setLc (own := [("place", 6)]) (g := (gName 6)) (i := 4) rfl sc_lifted.nd rfl rfl (sw_true rfl rfl rfl (by decide +kernel)) (pi_range1 (by rfl) G.range_ (pa_cons (pe_ix ix_tup (pv 0) pe_int (fun _ _ => rfl)) pa_nil)) (blkOk_by (own := [("place", 6)]) (N := ["net", "tops", "table", "places", "rest", "needs", "place", "height", "one"]) (sc := (defScope (topS 27))) (by decide +kernel)) (fun _ _ _ _ _ => (pg_name (i := 6) sc_lifted.nd rfl (Or.inl rfl))) (fun _ _ _ _ _ => (pts_one (pt_cmpR (op_notIn_seqK K) (pv 6) (pv 3) (by rfl)))) (fun _ _ _ _ _ => (pv 6)))
      (pss_cons (ps_setLc (own := [("place", 6)]) (g := (gName 6)) (tt := tYes) (i := 5) rfl sc_lifted.nd rfl rfl (sw_true rfl rfl rfl (by decide +kernel)) (pi_list (pv 4)) (blkOk_by (own := [("place", 6)]) (N := ["net", "tops", "table", "places", "rest", "needs", "place", "height", "one"]) (sc := (defScope (topS 27))) (by decide +kernel)) (fun _ _ _ _ _ => (pg_name (i := 6) sc_lifted.nd rfl (Or.inr rfl))) (fun _ _ _ _ _ => pts_nil) (fun _ _ _ _ _ => (pe_callB (cr_minK K rfl) (by rfl) G.min_ (by decide +kernel) (pa_cons (pe_lc (own := [("one", 8), ("height", 7)]) (g := (gTup K 2 (gCons (gName 8) (gCons (gName 7) gNil)))) (tt := tYes) rfl sc_lifted.nd (pi_tupK K (pv 1)) (blkOk_in (own := [("one", 8), ("height", 7)]) (N := ["net", "tops", "table", "places", "rest", "needs", "place", "height", "one"]) (sc := (defScope (topS 27))) rfl (by decide +kernel)) (fun _ _ _ _ _ => (pg_tup rfl (pgs_cons (pg_name (i := 8) sc_lifted.nd rfl (Or.inl rfl)) (pgs_cons (pg_name (i := 7) sc_lifted.nd rfl (Or.inl rfl)) pgs_nil)))) (fun _ _ _ _ _ => pts_nil) (fun _ _ _ _ _ => (pe_op op_sub (pe_ix (ix_listK K) (pe_ix (ix_listK K) (pv 2) (pv 8) (fun _ _ => rfl)) (pv 6) (fun _ _ => rfl)) (pv 7)))) pa_nil))))
      (pss_one (ps_ret (pe_callB (cr_max rfl) (by rfl) G.max_ (by decide +kernel) (pa_cons (pe_op op_cat (pe_lst (pa_cons pe_int pa_nil)) (pv 5)) pa_nil))))))))), ?_⟩
    generalize hB : fw n rods = B at k
    have n4 := p.ok.n4
    refine q_asgP (ev_table p (ev_var rfl) (ev_var rfl)) fun u H1 e1 hu => ?_
    rw [hB] at hu
    refine q_when (b := !decide (clashes B tops = [])) (et_notN (ev_clash (p.mono e1) hu (ev_var rfl) (ev_var rfl)) fun H6 r _ hr => by rw [clash_none hr]) (fun hb H2 e2 => ?_) fun hb H2 e2 => ?_
    · have hb : clashes B tops ≠ [] := by simpa using hb
      refine s_ret ev_c fun H3 e3 => k H3 .non ((e1.trans e2).trans e3) ?_
      unfold lift
      rw [if_neg hb]
      rfl
    · have hb : clashes B tops = [] := by simpa using hb
      have e12 := e1.trans e2
      have p2 := p.mono e12
      obtain ⟨⟨q, ws, hqr, hq, hw⟩, ⟨nt, w0, hvr, hn0, _⟩⟩ := And.intro p2.tup p2.net
      subst hqr hvr
      have len4 := p.len
      have hpl := el_pairs (K := K) (H := H2) (σ := [some (.ref nt), some (.ref q), some u, none, none, none, none, none, none]) (tl := tVar 1) (vs := [6, 7]) (i := 6) (j := 7) (tt := tYes) (te := tVar 6) (ev_var rfl) hq hw (by omega) (fun _ _ => rfl) (fun _ => true) (fun t => V.int (t.1 : Nat)) (fun _ _ _ _ => et_yes) (fun _ _ _ _ _ => ev_var rfl)
      rw [filter_all] at hpl
      refine q_asgL hpl fun pa H3 hpa e3 hp3 => ?_
      have hp3 : H3 pa = some (.lst ((places tops).map fun p : Nat => V.int p)) := by
        rw [hp3]
        unfold places
        rw [List.map_map]
        rfl
      have hrest := el_nats (H := H3) (σ := [some (.ref nt), some (.ref q), some u, some (.ref pa), none, none, none, none, none]) (walks_rngN (n := n) (ta := tCons (tOp (rIxT K) (tVar 0) (tC (.int 0))) tNil) (ea_cons (ev_op (ev_var rfl) ev_c (rv_ixT (st_of (e3 _ _ hn0)) (at_of (j := 0) rfl))) ea_nil) (by omega)) (by rw [List.length_range]; omega) (i := 6) (vs := [6]) (fun _ => rfl)
        (fun q => !decide (q ∈ places tops)) (fun q => V.int (q : Nat)) (tt := tTest (tOp (rIn K true) (tVar 6) (tVar 3))) (te := tVar 6) (fun q _ H4 e4 => et_test (ev_notInL (ev_var rfl) (ev_var rfl) (sq_of (e4 _ _ hp3)))) (fun q _ H4 e4 _ => ev_var rfl)
      refine q_asgL hrest fun ra H4 hra e4 hr4 => ?_
      have hr4 : H4 ra = some (.lst ((rest n tops).map fun p : Nat => V.int p)) := hr4
      have e24 := e3.trans e4
      have hneeds := el_nats (H := H4) (l := rest n tops) (σ := [some (.ref nt), some (.ref q), some u, some (.ref pa), some (.ref ra), none, none, none, none]) (walks_list (K := K) (te := tVar 4) (ev_var rfl) (sq_of hr4)) (by have := rest_len n tops; omega) (i := 6) (vs := [6]) (fun _ => rfl)
        (fun _ => true) (fun q => V.int (need B tops q)) (tt := tYes) (te := tCB (rMin K) (tCons (tLc (iTup K (tVar 1)) (gTup K 2 (gCons (gName 8) (gCons (gName 7) gNil))) tYes (tOp (rI0 fun i j => .int (i - j)) (tOp (rIxL K) (tOp (rIxL K) (tVar 2) (tVar 8)) (tVar 6)) (tVar 7)) [8, 7]) tNil)) (fun _ _ _ _ => et_yes)
        (fun z hz H5 e5 _ => by
          have hin := el_pairs (K := K) (H := H5) (σ := [some (.ref nt), some (.ref q), some u, some (.ref pa), some (.ref ra), none, some (.int (z : Nat)), none, none]) (tl := tVar 1) (vs := [8, 7]) (i := 8) (j := 7) (tt := tYes) (te := tOp (rI0 fun i j => .int (i - j)) (tOp (rIxL K) (tOp (rIxL K) (tVar 2) (tVar 8)) (tVar 6)) (tVar 7)) (ev_var rfl) (ex_rd (e24.trans e5) hq) (pr_mono (fun _ _ => PairP.mono (e24.trans e5)) hw) (by omega) (fun _ _ => rfl) (fun _ => true) (fun t => V.int (B t.1 z - t.2)) (fun _ _ _ _ => et_yes)
            (fun t ht H6 e6 _ => ev_sub (ev_cell (ev_var rfl) (ev_var rfl) (ev_var rfl) (hu.mono (((e2.trans e24).trans e5).trans e6)) (p.lt t ht) (mem_rest.mp hz).1) (ev_var rfl))
          rw [filter_all, show (tops.map fun t : Top => V.int (B t.1 z - t.2)) = (tops.map fun t : Top => B t.1 z - t.2).map V.int by rw [List.map_map]; rfl] at hin
          exact ev_min hin (by simpa using p.tok.ne))
      rw [filter_all] at hneeds
      refine q_asgL hneeds fun na H5 hna e5 hn5 => ?_
      have hcat := el_cat1 (H := H5) (t1 := tLst (tCons (tC (.int 0)) tNil)) (t2 := tVar 5) (σ := [some (.ref nt), some (.ref q), some u, some (.ref pa), some (.ref ra), some (.ref na), none, none, none]) (el_lst (ea_cons ev_c ea_nil) (by show 1 ≤ 100000; omega)) (ev_var rfl) hn5 (by rw [List.length_map]; have := rest_len n tops; show 1 + _ ≤ _; omega)
      rw [show ([V.int 0] ++ (rest n tops).map fun q => V.int (need B tops q)) = (0 :: (rest n tops).map (need B tops)).map V.int by rw [List.map_cons, List.map_map]; rfl] at hcat
      refine s_ret (ev_max hcat (by simp)) fun H6 e6 => k H6 _ ((e12.trans (e24.trans e5)).trans e6) ?_
      unfold lift
      rw [if_pos hb]
      rfl
theorem sc_settled : FnScope ["net", "tops", "table", "found", "place", "height", "one", "level"] ["net", "tops"] (defScope (topS 28)) := ⟨rfl, rfl, rfl, by decide +kernel, rfl, by decide +kernel, by decide +kernel⟩
def spSettled : Sp := fun vs H Q _ => ∃ (v t : V) (n : Nat) (rods : List Rod) (tops : List Top), vs = [v, t] ∧ Pre H n rods tops v t ∧ ∀ H' r, Ex H H' → TupOf PairP H' (kept (fw n rods) tops) r → Q r H'
theorem kept_succ {D : Tab} {tops : List Top} {i : Nat} {t : Top} (h : tops[i]? = some t) : (tops.take (i + 1)).filter (fun t => decide (overT D tops t = [])) = (tops.take i).filter (fun t => decide (overT D tops t = [])) ++ (if overT D tops t = [] then [t] else []) := by
  rw [List.take_add_one, h, List.filter_append]
  congr 1
  show List.filter _ [t] = _
  rw [List.filter_cons]
  by_cases c : overT D tops t = []
  · rw [if_pos (by simpa using c), if_pos c]
    rfl
  · rw [if_neg (by simpa using c), if_neg c]
    rfl
theorem ok_settled (D : Dv K mg "settled" (topS 28) ["net", "tops"]) (G : Glob mg) (c_need_tops : Ca P w K mg base 4 "need_tops" spNeedTops) : Ca P w K mg base 5 "settled" spSettled := by
  refine dv_ok D sc_settled (fun vs H Q E h => ?_) (fun f cdv A outer s H vs Q E hr h => ?_)
  · obtain ⟨v, t, n, rods, tops, rfl, _⟩ := h
    rfl
  · obtain ⟨v, t, n, rods, tops, rfl, p, k⟩ := h
    refine ⟨_, (pss_cons (ps_set (i := 2) sc_settled.nd rfl (Or.inr rfl) (C8.pe_c c_need_tops hr (by decide) rfl (pa_cons (pv 0) (pa_cons (pv 1) pa_nil))))
      (pss_cons (ps_set (i := 3) sc_settled.nd rfl (Or.inl rfl) (pe_lst pa_nil))
      (pss_cons (ps_for PassesOwn.never rfl (pi_tup (pv 1)) (pg_tup rfl (pgs_cons (pg_name (i := 4) sc_settled.nd rfl (Or.inr rfl)) (pgs_cons (pg_name (i := 5) sc_settled.nd rfl (Or.inr rfl)) pgs_nil))) (pss_one (ps_if (pt_not (pt_val (pe_callB (cr_any rfl) (by rfl) G.any_ (by decide +kernel) (pa_cons (pe_lc (own := [("one", 6), ("level", 7)]) (g := (gTup K 2 (gCons (gName 6) (gCons (gName 7) gNil)))) (tt := tYes) rfl sc_settled.nd (pi_tup (pv 1)) (blkOk_by (own := [("one", 6), ("level", 7)]) (N := ["net", "tops", "table", "found", "place", "height", "one", "level"]) (sc := (defScope (topS 28))) (by decide +kernel)) (fun _ _ _ _ _ => (pg_tup rfl (pgs_cons (pg_name (i := 6) sc_settled.nd rfl (Or.inl rfl)) (pgs_cons (pg_name (i := 7) sc_settled.nd rfl (Or.inl rfl)) pgs_nil)))) (fun _ _ _ _ _ => pts_nil) (fun _ _ _ _ _ => (pe_and (pe_cmpR op_ne (pv 6) (pv 4) (nomark _)) (pe_one (pe_cmpR op_ge (pe_op op_sub (pv 7) (pe_ix (ix_listK K) (pe_ix (ix_listK K) (pv 2) (pv 6) (fun _ _ => rfl)) (pv 4) (fun _ _ => rfl))) (pv 5) (nomark _)))))) pa_nil)))) (pss_one (ps_expr (pe_bm PySem.F.plainAttrs_list PySem.F.slot_list_append PySem.F.type_list_append mt_append (pv 3) (pa_cons (pe_tup (pa_cons (pv 4) (pa_cons (pv 5) pa_nil))) pa_nil)))) pss_nil)))
      (pss_one (ps_ret (pe_callTy call_tuple_of (by rfl) G.tuple_ (by decide +kernel) (pa_cons (pv 3) pa_nil))))))), ?_⟩
    generalize hB : fw n rods = B at k
    have n4 := p.ok.n4
    have len4 := p.len
    refine q_asgP (ev_table p (ev_var rfl) (ev_var rfl)) fun u H1 e1 hu => ?_
    rw [hB] at hu
    obtain ⟨q, ws, rfl, hq, hw⟩ := p.tup
    refine q_asgL (el_lst ea_nil (by show 0 ≤ 100000; omega)) fun fa H2 hfa e2 h2 => ?_
    have hfa0 : H fa = none := fresh_back e1 hfa
    refine q_forT (ev_var rfl) (.inl (ex_rd (e1.trans e2) hq)) (fun i σ' H' => Ex H1 H' ∧ ∃ ys y4 y5, σ' = [some v, some (.ref q), some u, some (.ref fa), y4, y5, none, none] ∧ H' fa = some (.lst ys) ∧ Paired (PairP H') ((tops.take i).filter fun t => decide (overT B tops t = [])) ys)
      (fun H3 e3 => ⟨e2.trans e3, [], _, _, rfl, e3 _ _ h2, .nil⟩) (fun i σ' H' _ z => .inl (ex_rd (e1.trans z.1) hq)) ?_ ?_
    · rintro i x σ' H' hx ⟨e3, ys, y4, y5, rfl, hfs, hps⟩
      obtain ⟨tt, r, htt, rfl, hr0⟩ := top_at hw hx
      have htm := List.mem_of_getElem? htt
      refine g_two (e3 _ _ (e1 _ _ hr0)) ?_
      have hin := el_pairs (K := K) (H := H') (σ := [some v, some (.ref q), some u, some (.ref fa), some (.int (tt.1 : Nat)), some (.int tt.2), none, none]) (tl := tVar 1) (vs := [6, 7]) (i := 6) (j := 7) (tt := tYes) (te := tAndV (tOp rNe (tVar 6) (tVar 4)) (tOp (rI0 fun i j => .bl (decide (j ≤ i))) (tOp (rI0 fun i j => .int (i - j)) (tVar 7) (tOp (rIxL K) (tOp (rIxL K) (tVar 2) (tVar 6)) (tVar 4))) (tVar 5)))
        (ev_var rfl) (ex_rd (e1.trans e3) hq) (pr_mono (fun _ _ => PairP.mono (e1.trans e3)) hw) (by omega) (fun _ _ => rfl) (fun _ => true) (fun z => V.bl (decide (z.1 ≠ tt.1) && decide (tt.2 ≤ z.2 - B z.1 tt.1))) (fun _ _ _ _ => et_yes)
        (fun z hz H4 e4 _ => ev_andV (ev_is (ev_neI (ev_var rfl) (ev_var rfl)) (by
          congr 1
          rw [Bool.eq_iff_iff, decide_eq_true_eq, decide_eq_true_eq]
          omega)) fun _ => ev_ge (ev_sub (ev_var rfl) (ev_cell (ev_var rfl) (ev_var rfl) (ev_var rfl) (hu.mono (e3.trans e4)) (p.lt z hz) (p.lt tt htm))) (ev_var rfl))
      rw [filter_all, show (tops.map fun z : Top => V.bl (decide (z.1 ≠ tt.1) && decide (tt.2 ≤ z.2 - B z.1 tt.1))) = (tops.map fun z : Top => (decide (z.1 ≠ tt.1) && decide (tt.2 ≤ z.2 - B z.1 tt.1))).map V.bl by rw [List.map_map]; rfl] at hin
      have hb : (!(tops.map fun z : Top => (decide (z.1 ≠ tt.1) && decide (tt.2 ≤ z.2 - B z.1 tt.1))).any id) = decide (overT B tops tt = []) := by
        rw [overT_any, List.any_map]
        rfl
      have hlen : ys.length ≤ 4 := by
        have h1 := pr_len hps
        have h2 := List.length_filter_le (fun t => decide (overT B tops t = [])) (tops.take i)
        have h3 : (tops.take i).length ≤ tops.length := by
          rw [List.length_take]
          omega
        omega
      refine s_when (b := decide (overT B tops tt = [])) (et_is (et_not (et_B (ev_any hin))) hb) (fun hyes H4 e4 => ?_) fun hno H4 e4 => ?_
      · have hyes : overT B tops tt = [] := by simpa using hyes
        refine s_appU (xs := ys) (e4 _ _ hfs) (ev_var rfl) (eu_tup (ea_cons (ev_var rfl) (ea_cons (ev_var rfl) ea_nil)) (by show 2 ≤ 100000; omega)) (by omega) fun o H5 ho e5 h5 => ?_
        have hf5 : H5 fa = some (.lst ys) := e5 _ _ (e4 _ _ hfs)
        refine ⟨Ex.mut ((e3.trans e4).trans e5) hfa, _, _, _, rfl, upd_same, ?_⟩
        rw [kept_succ htt, if_pos hyes]
        exact pr_snoc (pr_mono (fun a y z => pair_list hf5 (PairP.mono (e4.trans e5) z)) hps) (pair_list hf5 ⟨o, rfl, h5⟩)
      · have hno : ¬ overT B tops tt = [] := by simpa using hno
        refine ⟨e3.trans e4, ys, _, _, rfl, e4 _ _ hfs, ?_⟩
        rw [kept_succ htt, if_neg hno, List.append_nil]
        exact pr_mono (fun a y z => PairP.mono e4 z) hps
    · rintro σ' H' ⟨e3, ys, y4, y5, rfl, hfs, hps⟩
      rw [← pr_len hw, List.take_length] at hps
      refine ⟨.ref fa, rfl, fa, ys, rfl, .inl ⟨sq_of hfs, fun o ho => k _ _ ((e1.trans e3).trans (Ex.new ho)) ⟨o, ys, rfl, upd_same, ?_⟩⟩⟩
      exact pr_mono (fun a y z => PairP.mono (Ex.new ho) z) hps
end
end K8
/-! row_with_tops: a row, or NoRow -/
namespace K8
open PySem PySem.Spec PyProof.Rows L2 Evl
/-- X(), X an own error without own __init__ -/
theorem pmk_own0 {X : Cx} {C : Addr} {bmB : List Value} {B newId initId : String} {x : Str} {p pos : Pos} (F : ExcBaseFacts B newId initId bmB) (q : PySem.W.excIn X.K C bmB newId = true) (gC : X.mg x = some (.ref C)) (kC : PySem.W.keepIn X.K (.ref C) = true) (r : Raises X (.ref C)) (hg : Gl X x)
    (hdb : (x == ("__debug__" : Str)) = false := by decide) : PMk X (.Call (.Name x p) [] [] pos) (fun _ H Q => Q (.ref C) none H) := by
  intro pins s σ H Q I h
  refine wpAny_Call_Name_kw (ld_glob I hg gC ?_ hdb)
  refine PySem.W.callWith_K0 I.kIn kC ?_
  obtain ⟨bm, N, nm, qn, bs, hdct, sn, sub, ab, col, dd, k0, k1, k2, k3, k5, mN, hC, hN, hni, T⟩ := exc_obj I.kIn q
  exact wpAny_call_exc_subT F T hC hN hni (fun h' e hm => mk_of I hm r h (I.hok.gone hm.new)) (Nat.zero_le _)
/-- what the top has of the error NoRow -/
structure NoRowT (K : PySem.W.Frag) (mg : Str → Option Value) (C : Addr) : Prop where
  g : mg "NoRow" = some (.ref C)
  x : PySem.W.excIn K C [.type "ValueError", .type "Exception", .type "BaseException", .type "object"] "ValueError.__new__" = true
  k : PySem.W.keepIn K (.ref C) = true
  b : PySem.W.subIn K (.ref C) (.type "BaseException") = some true
  t : PySem.W.typeIn K (.ref C) = some (.type "type")
  e : PySem.W.exmOne K (.ref C) (.ref C) = some true
def toldL (tops : List Top) : List (Key × V) := tops.map fun t => (Sum.inl (t.1 : Int), V.int t.2)
theorem valV_notin {κ : Type} [DecidableEq κ] : ∀ {kvs : List (κ × V)} {k : κ}, k ∉ kvs.map (·.1) → valV kvs k = none
  | [], _, _ => rfl
  | p :: r, k, h => by
    rw [List.map_cons, List.mem_cons, not_or] at h
    rw [valV_neg (Ne.symm h.1)]
    exact valV_notin h.2
theorem merge_new : ∀ (more acc : List (Key × V)), (acc.map (·.1) ++ more.map (·.1)).Nodup → mergeK acc more = acc ++ more
  | [], acc, _ => (List.append_nil acc).symm
  | p :: r, acc, h => by
    have h1 : p.1 ∉ acc.map (·.1) := fun z => by
      rw [List.nodup_append] at h
      exact h.2.2 p.1 z p.1 (by simp) rfl
    show mergeK (putK acc p.1 p.2) r = acc ++ p :: r
    rw [putK_new _ (valV_notin h1), merge_new r (acc ++ [(p.1, p.2)]) (by
      rw [List.map_append, List.append_assoc]
      exact h)]
    rw [List.append_assoc]
    rfl
theorem merge_told {tops : List Top} (asc : tops.Pairwise fun t u => t.1 < u.1) : mergeK [] (toldL tops) = toldL tops := by
  rw [merge_new _ [] ?_]
  · rfl
  · show (([] : List Key) ++ (toldL tops).map (·.1)).Nodup
    rw [List.nil_append]
    unfold toldL
    rw [List.map_map]
    exact List.pairwise_map.mpr (asc.imp fun {a b} h z => by
      have := Sum.inl.inj z
      omega)
theorem valV_told (tops : List Top) (p : Nat) : valV (toldL tops) (Sum.inl (p : Int)) = (told tops p).map V.int := by
  unfold toldL told
  induction tops with
  | nil => rfl
  | cons t r ih =>
    by_cases e : t.1 = p
    · rw [List.map_cons, valV_pos (by rw [e]), List.find?_cons, show decide (t.1 = p) = true by simpa using e]
      rfl
    · rw [List.map_cons, valV_neg (fun z => e (by have := Sum.inl.inj z; omega)), List.find?_cons, show decide (t.1 = p) = false by simpa using e]
      exact ih
theorem kpair_tops {H : Hp} : ∀ {tops : List Top} {ws : List V}, Paired (PairP H) tops ws → Paired (KPair H) ws (toldL tops)
  | _, _, .nil => .nil
  | _, _, .cons ⟨p, e, h⟩ t => .cons ⟨p, e, h⟩ (kpair_tops t)
theorem ev_din {σ : L2.St} {H : Hp} {td ty : TE} {d : Addr} {kvs : List (Key × V)} {k : Int} (h1 : Ev td σ H (.ref d)) (h2 : Ev ty σ H (.int k)) (hd : H d = some (.dK kvs)) : Ev (tDIn ty td) σ H (.bl (valV kvs (Sum.inl k)).isSome) := fun H1 e Q q =>
  h2 H1 e _ fun H2 e2 => h1 H2 (e.trans e2) _ fun H3 e3 => ⟨d, _, rfl, .inl ⟨kvs, Sum.inl k, .inl (e3 _ _ (e2 _ _ (e _ _ hd))), rfl, rfl⟩, q H3 (e2.trans e3)⟩
theorem covers_none (n : Nat) (D : Tab) (tops : List Top) : ((coversL n D tops).any fun kv => vNone kv.2) = !decide (allHid n D tops) := by
  unfold coversL
  rw [List.any_map, Bool.eq_iff_iff, List.any_eq_true, Bool.not_eq_true', decide_eq_false_iff_not]
  constructor
  · rintro ⟨q, hq, h⟩ k
    have h : vNone (coverV D tops q) = true := h
    unfold coverV at h
    rw [if_pos (k q hq)] at h
    cases h
  · intro h
    apply Classical.byContradiction
    intro no
    refine h fun q hq => ?_
    apply Classical.byContradiction
    intro c
    refine no ⟨q, hq, ?_⟩
    show vNone (coverV D tops q) = true
    unfold coverV
    rw [if_neg c]
    rfl
theorem covers_vals (n : Nat) (D : Tab) (tops : List Top) : ∀ kv ∈ coversL n D tops, kv.2 = .non ∨ ∃ i, kv.2 = .int i := fun kv h => by
  obtain ⟨q, _, rfl⟩ := List.mem_map.mp h
  simp only [coverV]
  split
  · exact .inr ⟨_, rfl⟩
  · exact .inl rfl
/-- None in d.values() -/
theorem ev_noneVals {σ : L2.St} {H : Hp} {K : PySem.W.Frag} {td : TE} {d : Addr} {kvs : List (Key × V)} (h1 : Ev td σ H (.ref d)) (hd : H d = some (.dK kvs)) (hv : ∀ kv ∈ kvs, kv.2 = .non ∨ ∃ i, kv.2 = .int i) : Ev (tOp rNoneVals (tC .non) (tBM0 K "dict" rVals td)) σ H (.bl (kvs.any fun kv => vNone kv.2)) := fun H1 e Q q => by
  refine h1 H1 e _ fun H2 e2 => ?_
  have hd2 := e2 _ _ (e _ _ hd)
  refine ⟨.inr (.inr (.inl ⟨rfl, .inl ⟨kvs, hd2⟩⟩)), d, kvs, rfl, rfl, hd2, fun p hp => ?_⟩
  exact ⟨p, d, kvs, rfl, rfl, upd_same, (Ex.new hp) _ _ hd2, hv, q _ (e2.trans (Ex.new hp))⟩
theorem q_tup {σ : L2.St} {H : Hp} {D : Ends} {tz : TS} {ta : TA} {g : TG} (h : ta σ H fun xs H1 => xs.length ≤ sizeLine ∧ ∀ p, H1 p = none → g (.ref p) σ (upd H1 p (.tup xs)) fun σ2 H2 => tz D σ2 H2) : tSeq (tAsg (tTup ta) g) tz D σ H := h
section
variable {P : Program} {w : World} {K : PySem.W.Frag} {mg : Str → Option Value} {base : Heap} {C : Addr}
theorem sc_row_with_tops : FnScope ["net", "tops", "is_greatest", "table", "covers", "known", "place"] ["net", "tops", "is_greatest"] (defScope (topS 26)) := ⟨rfl, rfl, rfl, by decide +kernel, rfl, by decide +kernel, by decide +kernel⟩
def Known (H : Hp) (t : V) : Prop := ∃ q o ws, t = .ref q ∧ H q = some (.frz o (.tup ws)) ∧ o.dict = none
theorem Known.mono {H H' : Hp} {t : V} (e : Ex H H') : Known H t → Known H' t := fun ⟨q, o, ws, a, b, c⟩ => ⟨q, o, ws, a, e _ _ b, c⟩
def spRow (C : Addr) : Sp := fun vs H Q E => ∃ (v t : V) (n : Nat) (rods : List Rod) (tops : List Top) (g : Int), vs = [v, t, .int g] ∧ 0 ≤ g ∧ g ≤ 1 ∧ Pre H n rods tops v t ∧ Known H t ∧
  (rowW n (fw n rods) tops g = none → ∀ H', Ex H H' → E (.ref C) none H') ∧ (∀ r, rowW n (fw n rods) tops g = some r → ∀ H' y, Ex H H' → IntsT H' r y → Q y H')
/-- what the top has of the def, and its promise: an error may leave it -/
structure CaX (P : Program) (w : World) (K : PySem.W.Frag) (mg : Str → Option Value) (base : Heap) (k : Nat) (x : Str) (sp : Sp) : Prop where
  ex : ∃ (f : Addr) (fd : FuncData) (ps : List Str), FnOk P w K mg base (L2.CX P w) k f fd ps sp ∧ mg x = some (.ref f) ∧ PySem.W.keepIn K (.ref f) = true ∧ Binds K fd ps []
theorem ok_row_with_tops (D : Dv K mg "row_with_tops" (topS 26) ["net", "tops", "is_greatest"]) (G : Glob mg) (N1 : NoRowT K mg C) (c_need_tops : Ca P w K mg base 4 "need_tops" spNeedTops) (c_need_number : Ca P w K mg base 3 "need_number" spNeedNumber) (c_covers_of : Ca P w K mg base 1 "covers_of" spCovers) (c_clash_of : Ca P w K mg base 1 "clash_of" spClash) : CaX P w K mg base 5 "row_with_tops" (spRow C) := by
  obtain ⟨f, fd, F, gf, bd⟩ := D.ex
  refine ⟨f, fd, _, F.okX (k := 4) sc_row_with_tops (fun vs H Q E h => ?_) (fun cdv A outer s H vs Q E hr h => ?_), gf, F.kp, bd⟩
  · obtain ⟨v, t, n, rods, tops, g, rfl, _⟩ := h
    rfl
  · obtain ⟨v, t, n, rods, tops, g, rfl, g0, g1, p, hkn, kE, kQ⟩ := h
    refine ⟨_, (pss_cons (ps_set (i := 3) sc_row_with_tops.nd rfl (Or.inl rfl) (C8.pe_c c_need_tops hr (by decide) rfl (pa_cons (pv 0) (pa_cons (pv 1) pa_nil))))
      (pss_cons (ps_expr (C8.pe_c c_need_number hr (by decide) rfl (pa_cons (pv 2) (pa_cons pe_int (pa_cons pe_int pa_nil)))))
      (pss_cons (ps_asg (pe_tup (pa_cons (C8.pe_c c_covers_of hr (by decide) rfl (pa_cons (pv 3) (pa_cons (pv 1) pa_nil))) (pa_cons (pe_callTy (call_dictT rfl) (by rfl) G.dict_ (by decide +kernel) (pa_cons (pv 1) pa_nil)) pa_nil))) (pg_tup rfl (pgs_cons (pg_name (i := 4) sc_row_with_tops.nd rfl (Or.inr rfl)) (pgs_cons (pg_name (i := 5) sc_row_with_tops.nd rfl (Or.inr rfl)) pgs_nil))))
      (pss_cons (ps_if (PW.pt (pw_or (pt_cmpR op_notN (C8.pe_c c_clash_of hr (by decide) rfl (pa_cons (pv 3) (pa_cons (pv 1) pa_nil))) pe_non (nomark _)) (pw_or1 (pt_cmpR (op_noneVals rfl) pe_non (pe_bm0 PySem.F.plainAttrs_dict PySem.F.slot_dict_values PySem.F.type_dict_values mt_values (pv 4)) (by rfl))))) (pss_one (ps_raise rfl (takes_of rfl rfl rfl rfl) (pmk_own0 PySem.F.excBase_ValueError N1.x N1.g N1.k (raises_own N1.b N1.t) rfl))) pss_nil)
      (pss_one (ps_ret (pe_callTy call_tuple_of (by rfl) G.tuple_ (by decide +kernel) (pa_cons (pe_lc (own := [("place", 6)]) (g := (gName 6)) (tt := tYes) rfl sc_row_with_tops.nd (pi_range1 (by rfl) G.range_ (pa_cons (pe_ix ix_tup (pv 0) pe_int (fun _ _ => rfl)) pa_nil)) (blkOk_by (own := [("place", 6)]) (N := ["net", "tops", "is_greatest", "table", "covers", "known", "place"]) (sc := (defScope (topS 26))) (by decide +kernel)) (fun _ _ _ _ _ => (pg_name (i := 6) sc_row_with_tops.nd rfl (Or.inl rfl))) (fun _ _ _ _ _ => pts_nil) (fun _ _ _ _ _ => (pe_ifExp (pt_cmp (pc_din (hu_of hr) (pv 6) (pv 5))) (pe_dget (hu_of hr) (pv 5) (pv 6) (fun _ _ => rfl)) (pe_op op_mul (pe_dget (hu_of hr) (pv 4) (pv 6) (fun _ _ => rfl)) (pv 2))))) pa_nil)))))))), ?_⟩
    generalize hB : fw n rods = B at kE kQ
    have n4 := p.ok.n4
    refine q_asgP (ev_table p (ev_var rfl) (ev_var rfl)) fun u H1 e1 hu => ?_
    rw [hB] at hu
    refine q_drop (ev_call (z := .non) (ea_cons (ev_var rfl) (ea_cons ev_c (ea_cons ev_c ea_nil))) fun H2 e Q q E => ⟨g, 0, 1, rfl, g0, g1, q H2 (Ex.refl _)⟩) fun H2 e2 => ?_
    have p2 := p.mono (e1.trans e2)
    -- covers, known
    refine q_tup (c_consP (ev_covers p2 (hu.mono e2) (ev_var rfl) (ev_var rfl)) fun c H3 e3 hc => ?_)
    obtain ⟨d, rfl, hd0, hd⟩ := hc
    have e03 := (e1.trans e2).trans e3
    have p3 := p.mono e03
    obtain ⟨q, o, ws, rfl, hq, hod⟩ := hkn.mono e03
    obtain ⟨q', ws', eq', hq', hw⟩ := p3.tup
    cases eq'
    have hws : ws' = ws := by
      rcases hq' with z | ⟨o', z⟩
      · rw [hq] at z
        cases z
      · rw [hq] at z
        cases z
        rfl
    subst hws
    refine ⟨.ref q, rfl, q, o, ws', toldL tops, rfl, hq, hod, kpair_tops hw, fun kd hkd => ?_⟩
    rw [merge_told p.tok.asc]
    have e4 : Ex H3 (upd H3 kd (.dK (toldL tops))) := Ex.new hkd
    refine ⟨by show 2 ≤ sizeLine; decide, fun pt hpt => ?_⟩
    refine g_two upd_same ?_
    generalize hH5 : upd (upd H3 kd (.dK (toldL tops))) pt (.tup [.ref d, .ref kd]) = H5
    have e5 : Ex (upd H3 kd (.dK (toldL tops))) H5 := by rw [← hH5]; exact Ex.new hpt
    have e05 : Ex H H5 := e03.trans (e4.trans e5)
    have hd5 : H5 d = some (.dK (coversL n B tops)) := e5 _ _ (e4 _ _ hd)
    have hk5 : H5 kd = some (.dK (toldL tops)) := e5 _ _ upd_same
    have p5 := p.mono e05
    have hu5 := hu.mono (((e2.trans e3).trans e4).trans e5)
    refine q_when (b := !decide (clashes B tops = [] ∧ allHid n B tops)) (et_is (et_or (a := !decide (clashes B tops = [])) (b := !decide (allHid n B tops)) (et_notN (ev_clash p5 hu5 (ev_var rfl) (ev_var rfl)) fun H6 r _ hr => by rw [clash_none hr]) fun _ => et_is (et_test (ev_noneVals (ev_var rfl) hd5 (covers_vals n B tops))) (covers_none n B tops)) ?_) (fun hb H6 e6 => ?_) fun hb H6 e6 => ?_
    · rw [Bool.eq_iff_iff]
      simp only [Bool.or_eq_true, Bool.not_eq_true', decide_eq_false_iff_not]
      constructor
      · rintro (a | a) ⟨b, c⟩
        · exact a b
        · exact a c
      · intro a
        by_cases z : clashes B tops = []
        · exact .inr fun y => a ⟨z, y⟩
        · exact .inl z
    · have hb : ¬ (clashes B tops = [] ∧ allHid n B tops) := by
        intro z
        rw [decide_eq_true z] at hb
        cases hb
      refine kE ?_ H6 (e05.trans e6)
      unfold rowW
      rw [if_neg hb]
    · have hb : clashes B tops = [] ∧ allHid n B tops := by
        have h2 : decide (clashes B tops = [] ∧ allHid n B tops) = true := by
          cases h : decide (clashes B tops = [] ∧ allHid n B tops)
          · rw [h] at hb
            cases hb
          · rfl
        exact of_decide_eq_true h2
      have e06 := e05.trans e6
      obtain ⟨nt, w0, hvr, hn0, _⟩ := (p.mono e06).net
      subst hvr
      have hcomp := el_nats (H := H6) (σ := [some (.ref nt), some (.ref q), some (.int g), some u, some (.ref d), some (.ref kd), none]) (walks_rngN (n := n) (ta := tCons (tOp (rIxT K) (tVar 0) (tC (.int 0))) tNil) (ea_cons (ev_op (ev_var rfl) ev_c (rv_ixT (st_of hn0) (at_of (j := 0) rfl))) ea_nil) (by omega)) (by rw [List.length_range]; omega) (i := 6) (vs := [6]) (fun _ => rfl)
        (fun _ => true) (fun z => V.int (rowAt B tops g z)) (tt := tYes) (te := tIf (tB (tDIn (tVar 6) (tVar 5))) (tDGet (tVar 5) (tVar 6)) (tOp (rI CMul fun i j => .int (i * j)) (tDGet (tVar 4) (tVar 6)) (tVar 2))) (fun _ _ _ _ => et_yes)
        (fun z hz H7 e7 _ => by
          have hz : z < n := List.mem_range.mp hz
          refine ev_if (et_B (ev_din (ev_var rfl) (ev_var rfl) (e7 _ _ (e6 _ _ hk5)))) (fun hy => ?_) fun hn => ?_
          · rw [valV_told] at hy
            unfold rowAt
            cases ht : told tops z with
            | none =>
              rw [ht] at hy
              cases hy
            | some y => exact ev_dget (ev_var rfl) (ev_var rfl) (.inl (e7 _ _ (e6 _ _ hk5))) (by rw [valV_told, ht]; rfl)
          · rw [valV_told] at hn
            unfold rowAt
            cases ht : told tops z with
            | some y =>
              rw [ht] at hn
              cases hn
            | none =>
              have hzr : z ∈ rest n tops := mem_rest.mpr ⟨hz, told_none.mp ht⟩
              have hcv : coverV B tops z = .int (cov B tops z) := if_pos (hb.2 z hzr)
              exact ev_op (ev_is (ev_dget (ev_var rfl) (ev_var rfl) (.inl (e7 _ _ (e6 _ _ hd5))) (covers_at hzr)) hcv) (ev_var rfl) (rv_I (C := CMul) (g := fun i j => .int (i * j)) (.inr (by omega))))
      rw [filter_all] at hcomp
      refine s_retU (eu_tupleOf hcomp) fun r H7 hr e7 h7 => ?_
      refine kQ ((List.range n).map (rowAt B tops g)) ?_ H7 _ (e06.trans e7) ⟨r, rfl, ?_⟩
      · unfold rowW
        rw [if_pos hb]
      · rw [h7, List.map_map]
        rfl
end
end K8
/-! _law_taken: the next number of the script -/
namespace K8
open PySem PySem.Spec PyProof.Rows L2 Evl
/-- the row that the law reads its script with: it alone changes -/
def rowO (a : Addr) (i m q : Int) : HO := .lst [.ref a, .int i, .int m, .int q]
def Sub (H H' : Hp) : Prop := ∀ p o, H p = some o → (∀ a i m q, o ≠ rowO a i m q) → H' p = some o
theorem Sub.refl (H : Hp) : Sub H H := fun _ _ h _ => h
theorem Sub.trans {H H1 H2 : Hp} (a : Sub H H1) (b : Sub H1 H2) : Sub H H2 := fun p o h n => b p o (a p o h n) n
theorem Ex.sub {H H' : Hp} (e : Ex H H') : Sub H H' := fun p o h _ => e p o h
theorem Sub.row {H H' : Hp} {r a : Addr} {i m q : Int} {o : HO} (e : Sub H H') (h : H r = some (rowO a i m q)) : Sub H (upd H' r o) := fun p u hp n => by
  have c : p ≠ r := fun z => by
    subst z
    rw [h] at hp
    cases hp
    exact n _ _ _ _ rfl
  rw [upd_ne c]
  exact e p u hp n
theorem sub_rd {H H' : Hp} {a : Addr} {u : HO} (e : Sub H H') (n : ∀ a i m q, u ≠ rowO a i m q) (h : Rd H a u) : Rd H' a u := by
  rcases h with h | ⟨o, h⟩
  · exact Or.inl (e a _ h n)
  · exact Or.inr ⟨o, e a _ h fun _ _ _ _ z => nomatch z⟩
theorem ints_row {ns : List Int} : ∀ a i m q, HO.lst (ns.map V.int) ≠ rowO a i m q := fun a i m q z => by
  cases ns with
  | nil => cases z
  | cons n r =>
    injection z with z
    injection z with z _
    cases z
theorem sub_l {K : PySem.W.Frag} {H H' : Hp} {a : Addr} {ns : List Int} (e : Sub H H') (h : SqL K H a (ns.map V.int)) : SqL K H' a (ns.map V.int) := by
  rcases h with h | h
  · exact Or.inl (sub_rd e ints_row h)
  · exact Or.inr h
theorem sub_t {K : PySem.W.Frag} {H H' : Hp} {a : Addr} {xs : List V} (e : Sub H H') (h : SqT K H a xs) : SqT K H' a xs := by
  rcases h with h | h
  · exact Or.inl (sub_rd e (fun _ _ _ _ z => nomatch z) h)
  · exact Or.inr h
def RowP (K : PySem.W.Frag) (ns : Addr × List Int) (H : Hp) (r : Addr) : Prop := ∃ i m q, 0 ≤ i ∧ H r = some (rowO ns.1 i m q) ∧ SqL K H ns.1 (ns.2.map V.int)
theorem RowP.mono {K : PySem.W.Frag} {ns : Addr × List Int} {H H' : Hp} {r : Addr} (e : Ex H H') : RowP K ns H r → RowP K ns H' r := fun ⟨i, m, q, h0, h, hs⟩ => ⟨i, m, q, h0, e _ _ h, ex_l e hs⟩
theorem atI_int {ns : List Int} {i : Int} (h0 : 0 ≤ i) (h1 : i < ns.length) : ∃ z, atI (ns.map V.int) i = some (.int z) := by
  obtain ⟨k, rfl⟩ : ∃ k : Nat, i = (k : Int) := ⟨i.toNat, by omega⟩
  have hk : k < ns.length := by omega
  refine ⟨ns[k], at_of (j := k) ?_⟩
  rw [List.getElem?_map, List.getElem?_eq_getElem hk]
  rfl
theorem q_row {K : PySem.W.Frag} {σ : L2.St} {H : Hp} {te ta tb : TE} {D : Ends} {tz : TS} {l a a' : Addr} {v : V} {i m q i' m' q' : Int} (j : Nat) (hl : H l = some (rowO a i m q)) (h : Ev te σ H v) (ho : Ev ta σ H (.ref l)) (hi : Ev tb σ H (.int (j : Int))) (hj : j < 4) (hs : [V.ref a, V.int i, V.int m, V.int q].set j v = [V.ref a', V.int i', V.int m', V.int q']) (k : ∀ H1, Ex H H1 → tz D σ (upd H1 l (rowO a' i' m' q'))) : tSeq (tAsg te (gSub ta tb rSetL)) tz D σ H := by
  refine q_setL (j := j) hl h ho hi hj fun H1 e => ?_
  rw [hs]
  exact k H1 e
theorem s_row {K : PySem.W.Frag} {σ : L2.St} {H : Hp} {te ta tb : TE} {D : Ends} {l a a' : Addr} {v : V} {i m q i' m' q' : Int} (j : Nat) (hl : H l = some (rowO a i m q)) (h : Ev te σ H v) (ho : Ev ta σ H (.ref l)) (hi : Ev tb σ H (.int (j : Int))) (hj : j < 4) (hs : [V.ref a, V.int i, V.int m, V.int q].set j v = [V.ref a', V.int i', V.int m', V.int q']) (k : ∀ H1, Ex H H1 → D.nx σ (upd H1 l (rowO a' i' m' q'))) : tAsg te (gSub ta tb rSetL) D σ H := by
  refine s_setL (j := j) hl h ho hi hj fun H1 e => ?_
  rw [hs]
  exact k H1 e
section
variable {P : Program} {w : World} {K : PySem.W.Frag} {mg : Str → Option Value} {base : Heap}
theorem sc_law_taken : FnScope ["_law_row", "_law_many", "_law_found", "_law_cell"] ["_law_row", "_law_many"] (defScope (topS 31)) := ⟨rfl, rfl, rfl, by decide +kernel, rfl, by decide +kernel, by decide +kernel⟩
def spTaken (K : PySem.W.Frag) : Sp := fun vs H Q _ => ∃ (r : Addr) (ns : Addr × List Int) (many : Int), vs = [.ref r, .int many] ∧ RowP K ns H r ∧ 0 < many ∧ many ≤ 1000000 ∧ ∀ x H', Sub H H' → RowP K ns H' r → 0 ≤ x → x < many → Q (.int x) H'
theorem ok_law_taken (D : Dv K mg "_law_taken" (topS 31) ["_law_row", "_law_many"]) (G : Glob mg) : Ca P w K mg base 1 "_law_taken" (spTaken K) := by
  refine dv_ok D sc_law_taken (fun vs H Q E h => ?_) (fun f cdv A outer s H vs Q E hr h => ?_)
  · obtain ⟨r, ns, many, rfl, _⟩ := h
    rfl
  · obtain ⟨r, ⟨a, ns⟩, many, rfl, ⟨i, m, q, h0, hH, hs⟩, m0, m1, k⟩ := h
    simp only at hH hs
    refine ⟨_, (pss_cons (ps_if (pt_cmpR op_gt (pe_ix ix_list (pv 0) pe_int (fun _ _ => rfl)) pe_int (nomark _)) (pss_cons (ps_set (i := 2) sc_law_taken.nd rfl (Or.inl rfl) (pe_op op_mod (pe_callTy call_int1 (by rfl) G.int_ (by decide +kernel) (pa_cons (pe_ix ix_list (pv 0) pe_int (fun _ _ => rfl)) pa_nil)) (pv 1)))
      (pss_cons (ps_asg (pe_op op_fdivW (pe_ix ix_list (pv 0) pe_int (fun _ _ => rfl)) (pv 1)) (pg_sub (pv 0) pe_int set_list))
      (pss_one (ps_ret (pv 2))))) pss_nil)
      (pss_cons (ps_asg (pe_op op_add (pe_ix ix_list (pv 0) pe_int (fun _ _ => rfl)) pe_int) (pg_sub (pv 0) pe_int set_list))
      (pss_cons (ps_if (pt_cmpR op_gt (pe_ix ix_list (pv 0) pe_int (fun _ _ => rfl)) (pe_callB call_len_seq (by rfl) G.len_ (by decide +kernel) (pa_cons (pe_ix ix_list (pv 0) pe_int (fun _ _ => rfl)) pa_nil)) (nomark _)) (pss_cons (ps_asg (pe_op op_mod (pe_callTy call_int1 (by rfl) G.int_ (by decide +kernel) (pa_cons (pe_op op_add (pe_op op_mul (pe_ix ix_list (pv 0) pe_int (fun _ _ => rfl)) pe_int) pe_int) pa_nil)) pe_int) (pg_sub (pv 0) pe_int set_list))
      (pss_one (ps_ret (pe_op op_mod (pe_callTy call_int1 (by rfl) G.int_ (by decide +kernel) (pa_cons (pe_op op_fdivW (pe_ix ix_list (pv 0) pe_int (fun _ _ => rfl)) pe_int) pa_nil)) (pv 1))))) pss_nil)
      (pss_cons (ps_set (i := 3) sc_law_taken.nd rfl (Or.inl rfl) (pe_ix ix_list (pe_ix ix_list (pv 0) pe_int (fun _ _ => rfl)) (pe_op op_sub (pe_ix ix_list (pv 0) pe_int (fun _ _ => rfl)) pe_int) (fun _ _ => rfl)))
      (pss_cons (ps_asg (pe_op op_mod (pe_callTy call_int1 (by rfl) G.int_ (by decide +kernel) (pa_cons (pe_op op_add (pe_op op_add (pe_op op_mul (pe_ix ix_list (pv 0) pe_int (fun _ _ => rfl)) pe_int) (pv 3)) pe_int) pa_nil)) pe_int) (pg_sub (pv 0) pe_int set_list))
      (pss_cons (ps_if (pt_cmpR op_ge (pv 3) (pe_op op_pow pe_int pe_int) (nomark _)) (pss_one (ps_asg (pe_op op_fdivW (pv 3) (pv 1)) (pg_sub (pv 0) pe_int set_list))) pss_nil)
      (pss_one (ps_ret (pe_op op_mod (pe_callTy call_int1 (by rfl) G.int_ (by decide +kernel) (pa_cons (pv 3) pa_nil)) (pv 1)))))))))), ?_⟩
    have div : ∀ z, CDivW z many := fun z => wide_div (b := 20) m0 (by omega) (by omega) (by omega)
    have div7 : ∀ z, CDivW z 7 := fun z => wide_div (b := 20) (by omega) (by decide) (by omega) (by omega)
    have cell : ∀ (σ : L2.St) (H' : Hp) (j : Nat) (v : V) (xs : List V), σ[0]? = some (some (.ref r)) → H' r = some (.lst xs) → xs[j]? = some v → Ev (tOp (rIxL K) (tVar 0) (tC (.int (j : Nat)))) σ H' v := fun σ H' j v xs hv hr hx =>
      ev_op (ev_var hv) ev_c (rv_ixL (sq_of hr) (at_of hx))
    have sets : ∀ {H' : Hp}, Sub H H' → ∀ o, Sub H (upd H' r o) := fun e o => e.row hH
    have sq : ∀ {H' : Hp}, Sub H H' → SqL K H' a (ns.map V.int) := fun e => sub_l e hs
    have row : ∀ {H' : Hp} (i' m' q' : Int), Sub H (upd H' r (rowO a i' m' q')) → 0 ≤ i' → RowP K (a, ns) (upd H' r (rowO a i' m' q')) r := fun i' m' q' e hi => ⟨i', m', q', hi, upd_same, sub_l e hs⟩
    have ans : ∀ z H', Sub H H' → RowP K (a, ns) H' r → Q (.int (z % many)) H' := fun z H' e hr => k _ H' e hr (Int.emod_nonneg _ (by omega)) (Int.emod_lt_of_pos _ m0)
    have int1 : ∀ {te : TE} {σ : L2.St} {H' : Hp} {z : Int}, Ev te σ H' (.int z) → Ev (tCB (fun xs H Q => (∃ i, xs = [.int i] ∧ Q (.int i) H) ∨ ∃ k, xs = [.bl k] ∧ Q (.int (if k then 1 else 0)) H) (tCons te tNil)) σ H' (.int z) := fun h H1 e Q q => h H1 e _ fun H2 e2 => .inl ⟨_, rfl, q H2 e2⟩
    refine q_when (b := decide (0 < q)) (et_test (ev_gt (cell _ _ 3 (.int q) _ rfl hH rfl) ev_c)) (fun _ H1 e1 => ?_) fun _ H1 e1 => ?_
    · refine q_asg (v := .int (q % many)) (ev_op (int1 (cell _ _ 3 (.int q) _ rfl (e1 _ _ hH) rfl)) (ev_var rfl) (rv_I (C := fun _ j => 0 < j) (g := fun i j => .int (i % j)) m0)) fun H2 e2 => ?_
      have e12 := e1.trans e2
      refine q_row (K := K) 3 (e12 _ _ hH) (ev_op (cell _ _ 3 (.int q) _ rfl (e12 _ _ hH) rfl) (ev_var rfl) (rv_I (div q))) (ev_var rfl) ev_c (by decide) rfl fun H3 e3 => ?_
      have e13 := e12.trans e3
      refine s_ret (ev_var rfl) fun H4 e4 => ?_
      have sb : Sub H (upd H3 r (rowO a i m (q / many))) := sets (Ex.sub e13) _
      exact ans q H4 (sb.trans (Ex.sub e4)) ((row i m _ sb h0).mono e4)
    · refine q_row (K := K) 1 (e1 _ _ hH) (ev_add (cell _ _ 1 (.int i) _ rfl (e1 _ _ hH) rfl) ev_c) (ev_var rfl) ev_c (by decide) rfl fun H2 e2 => ?_
      have e12 := e1.trans e2
      have s2 : Sub H (upd H2 r (rowO a (i + 1) m q)) := sets (Ex.sub e12) _
      have r2 : (upd H2 r (rowO a (i + 1) m q)) r = some (rowO a (i + 1) m q) := upd_same
      generalize upd H2 r (rowO a (i + 1) m q) = B at s2 r2
      refine q_when (b := decide ((ns.length : Int) < i + 1)) (et_test (ev_gt (cell _ _ 1 (.int (i + 1)) _ rfl r2 rfl) (ev_is (ev_len2 (cell _ _ 0 (.ref a) _ rfl r2 rfl) (.inl (sq s2))) (by rw [List.length_map])))) (fun _ H3 e3 => ?_) fun hle H3 e3 => ?_
      · refine q_row (K := K) 2 (e3 _ _ r2) (ev_op (int1 (ev_add (ev_op (cell _ _ 2 (.int m) _ rfl (e3 _ _ r2) rfl) ev_c (rv_I (C := CMul) (g := fun i j => .int (i * j)) (.inr (by omega)))) ev_c)) ev_c (rv_I (by decide))) (ev_var rfl) ev_c (by decide) rfl fun H4 e4 => ?_
        have s4 := s2.trans (Ex.sub (e3.trans e4))
        have s5 : Sub H (upd H4 r (rowO a (i + 1) ((m * 48271 + 11) % 2147483647) q)) := sets s4 _
        have r5 : (upd H4 r (rowO a (i + 1) ((m * 48271 + 11) % 2147483647) q)) r = some _ := upd_same
        refine s_ret (v := .int ((((m * 48271 + 11) % 2147483647) / 7) % many)) (ev_op (int1 (ev_op (cell _ _ 2 (.int ((m * 48271 + 11) % 2147483647)) _ rfl r5 rfl) ev_c (rv_I (div7 _)))) (ev_var rfl) (rv_I (C := fun _ j => 0 < j) (g := fun i j => .int (i % j)) m0)) fun H5 e5 => ?_
        exact ans _ H5 (s5.trans (Ex.sub e5)) ((row _ _ _ s5 (by omega)).mono e5)
      · have hle : ¬ ((ns.length : Int) < i + 1) := by simpa using hle
        obtain ⟨z, hz⟩ := atI_int (ns := ns) (i := i + 1 - 1) (by omega) (by omega)
        have s3 := s2.trans (Ex.sub e3)
        have r3 := e3 _ _ r2
        refine q_asg (v := .int z) (ev_op (cell _ _ 0 (.ref a) _ rfl r3 rfl) (ev_sub (cell _ _ 1 (.int (i + 1)) _ rfl r3 rfl) ev_c) (rv_ixL (sq s3) hz)) fun H4 e4 => ?_
        have r4 := e4 _ _ r3
        refine q_row (K := K) 2 r4 (ev_op (int1 (ev_add (ev_add (ev_op (cell _ _ 2 (.int m) _ rfl r4 rfl) ev_c (rv_I (C := CMul) (g := fun i j => .int (i * j)) (.inr (by omega)))) (ev_var rfl)) ev_c)) ev_c (rv_I (by decide))) (ev_var rfl) ev_c (by decide) rfl fun H5 e5 => ?_
        have s5 := s3.trans (Ex.sub (e4.trans e5))
        have s6 : Sub H (upd H5 r (rowO a (i + 1) ((m * 48271 + z + 11) % 2147483647) q)) := sets s5 _
        have r6 : (upd H5 r (rowO a (i + 1) ((m * 48271 + z + 11) % 2147483647) q)) r = some (rowO a (i + 1) ((m * 48271 + z + 11) % 2147483647) q) := upd_same
        generalize upd H5 r (rowO a (i + 1) ((m * 48271 + z + 11) % 2147483647) q) = B2 at s6 r6
        generalize (m * 48271 + z + 11) % 2147483647 = m2 at r6
        refine q_when (b := decide ((10 : Int) ^ 18 ≤ z)) (et_test (ev_ge (ev_var rfl) (ev_op (z := .int (10 ^ 18)) ev_c ev_c (rv_I (C := CPow) (g := fun i j => .int (i ^ j.toNat)) ⟨by decide, by decide, by decide⟩)))) (fun _ H6 e6 => ?_) fun _ H6 e6 => ?_
        · have r7 := e6 _ _ r6
          refine s_row (K := K) 3 r7 (ev_op (ev_var rfl) (ev_var rfl) (rv_I (div z))) (ev_var rfl) ev_c (by decide) rfl fun H7 e7 => ?_
          have s7 : Sub H (upd H7 r (rowO a (i + 1) m2 (z / many))) := sets (s6.trans (Ex.sub (e6.trans e7))) _
          refine s_ret (v := .int (z % many)) (ev_op (int1 (ev_var rfl)) (ev_var rfl) (rv_I (C := fun _ j => 0 < j) (g := fun i j => .int (i % j)) m0)) fun H8 e8 => ?_
          exact ans _ H8 (s7.trans (Ex.sub e8)) ((row _ _ _ s7 (by omega)).mono e8)
        · have s7 := s6.trans (Ex.sub e6)
          refine s_ret (v := .int (z % many)) (ev_op (int1 (ev_var rfl)) (ev_var rfl) (rv_I (C := fun _ j => 0 < j) (g := fun i j => .int (i % j)) m0)) fun H8 e8 => ?_
          exact ans _ H8 (s7.trans (Ex.sub e8)) (RowP.mono (e6.trans e8) ⟨i + 1, m2, q, by omega, r6, sub_l s6 hs⟩)
end
end K8
/-! sorted(d) of a dict whose keys are pairs of ints -/
namespace K8
open PySem PySem.Spec PyProof.Rows L2 Evl
theorem kdl_raw {prog : Program} {w : World} {d : Addr} {es : Array DictEntry} {ep : Nat} (lo : (d == sysModules) = false) : PySem.W.KdlSrc prog w "dict" d d es.size (fun i v => ∃ hi : i < es.size, v = es[i].key) (fun h => h.DictRaw d es ep) where
  type := fun _ hm => hm.typeIs
  there := fun _ hm => let ⟨_, ho, _⟩ := hm; ⟨Heap.lt_size ho, Heap.lt_size ho⟩
  keep := fun _ _ hm hk => hm.at fun o e => hk d (.inl rfl) o e
  notList := by decide
  notTuple := by decide
  hint := fun _ _ _ _ hm hq => PySem.W.kdl_hint_dict hm.typeIs hq
  iter := fun _ _ hh hm => ⟨_, _, (fun _ _ hq => wpAny_pyIter_dict_raw lo hm hq), Walks.rawKeys hh _ d (let ⟨_, ho, _⟩ := hm; Nat.ne_of_lt (Heap.lt_size ho)) es ep, ⟨⟨_, Heap.get?_push_size _ rfl, rfl, rfl⟩, hm.at fun o e => Heap.get?_push_of_some _ e⟩⟩
/-- the pair that H knows at a value -/
def pairAt (H : Hp) : V → Int × Int
  | .ref a => (match H a with
    | some (.tup [.int i, .int j]) => (i, j)
    | _ => (0, 0))
  | _ => (0, 0)
theorem pairAt_of {H : Hp} {a : Addr} {i j : Int} (h : H a = some (.tup [.int i, .int j])) : pairAt H (.ref a) = (i, j) := by
  simp only [pairAt, h]
def key2 (p : Int × Int) : List L2.Key := [Sum.inl p.1, Sum.inl p.2]
def lexLe (p q : Int × Int) : Prop := p.1 < q.1 ∨ (p.1 = q.1 ∧ p.2 ≤ q.2)
def rSortDT : List V → Hp → VK → Prop := fun vs H Q => ∃ (a : Addr) (kvs : List (List L2.Key × V)) (ks : List (Int × Int)), vs = [.ref a] ∧ H a = some (.dT kvs) ∧ kvs.map (·.1) = ks.map key2 ∧
  ∀ (ys : List (Int × Int)) (zs : List V) (p : Addr), ys.Perm ks → ys.Pairwise lexLe → Paired (fun k z => ∃ q, z = .ref q ∧ H q = some (.tup [.int k.1, .int k.2])) ys zs → H p = none → Q (.ref p) (upd H p (.lst zs))
theorem call_sortedDT {X : Cx} (hcalm : X.calm = true) : CallR X (.builtin "sorted") rSortDT := by
  intro pins s σ H xs us Q I r q
  obtain ⟨a, kvs, ks, rfl, hd, hks, q⟩ := q
  obtain rfl := Vals.ref1 r
  obtain ⟨z, lo, xs', rel, dd⟩ := dt_of I.hok hd
  obtain ⟨es, ep, hraw, hsz, hes⟩ := Heap.DictOfH.raw dd
  have l1 : kvs.length = xs'.length := Paired.length rel
  have h16 : es.size ≤ sizeLine := by rw [hsz, ← l1]; exact z
  refine Calls.call_function_entry PyProof.Rows.kind_sorted PyProof.Rows.plain_sorted PyProof.Rows.entry_sorted (PyProof.Rows.args_sorted1 _) ?_
  unfold Builtin.«sorted»
  refine wpAny_bind (m := checkCount "sorted" 1 1 _) (wpAny_pure ?_)
  refine wpAny_bind (PySem.W.kdu_collect (A := X.A.in1) (kdl_raw lo) (I.ok.hd hcalm) hraw h16 fun h' tk acc hk hacc => ?_)
  have hal : acc.toList.length = es.size := by rw [Array.length_toList, hacc.1]
  -- the keys in their order
  have kat : ∀ (j : Nat) (v : Value), acc.toList[j]? = some v → ∃ k q, ks[j]? = some k ∧ v = Value.ref q ∧ H q = some (.tup [.int k.1, .int k.2]) := fun j v e => by
    obtain ⟨hj, rfl⟩ := hacc.2 j v (by rw [← Array.getElem?_toList]; exact e)
    obtain ⟨y, hy, hkey, _, _⟩ := hes j hj
    obtain ⟨p, hp, r1, r2, _⟩ := pr_get rel hy
    have e3 : (kvs.map (·.1))[j]? = some p.1 := by
      rw [List.getElem?_map, hp]
      rfl
    rw [hks, List.getElem?_map] at e3
    cases hkj : ks[j]? with
    | none =>
      rw [hkj] at e3
      cases e3
    | some k =>
      rw [hkj] at e3
      have e4 : key2 k = p.1 := Option.some.inj e3
      refine ⟨k, y.2.1, rfl, hkey, ?_⟩
      rw [r2, ← e4]
      rfl
  have kmem : ∀ v ∈ acc.toList, ∃ k q, v = Value.ref q ∧ H q = some (.tup [.int k.1, .int k.2]) ∧ pairAt H (backV v) = k := fun v hv => by
    obtain ⟨j, hj, e⟩ := List.getElem_of_mem hv
    obtain ⟨k, q, _, e2, e3⟩ := kat j v (by rw [List.getElem?_eq_getElem hj, e])
    refine ⟨k, q, e2, e3, ?_⟩
    rw [e2]
    exact pairAt_of e3
  have hkl : ks.length = es.size := by
    have e := congrArg List.length hks
    rw [List.length_map, List.length_map] at e
    omega
  have hmap : acc.toList.map (fun v => pairAt H (backV v)) = ks := by
    refine List.ext_getElem? fun j => ?_
    rw [List.getElem?_map]
    cases hj : acc.toList[j]? with
    | none =>
      rw [List.getElem?_eq_none_iff] at hj
      rw [Option.map_none, eq_comm, List.getElem?_eq_none_iff]
      omega
    | some v =>
      obtain ⟨k, q, e1, e2, e3⟩ := kat j v hj
      rw [e1, Option.map_some, e2]
      exact congrArg some (pairAt_of e3)
  have I1 : Inv X pins σ H { s with heap := h', toks := tk } := I.kept hk
  refine wpAny_bind (wpAny_newList ?_ (by rw [hal]; exact h16))
  have hoL : (h'.push (seqObj "list" acc.toList.toArray 0)).get? h'.objs.size = some (seqObj "list" acc.toList.toArray 0) := Heap.get?_push_size _ rfl
  show wpAny _ _ _ _ _ { s with heap := h'.push (seqObj "list" acc.toList.toArray 0), toks := tk }
  have hp : ∀ v ∈ acc.toList, Srt.IsPair (h'.push (seqObj "list" acc.toList.toArray 0)) v (pairAt H (backV v)).1 (pairAt H (backV v)).2 := fun v hv => by
    obtain ⟨k, q, rfl, ht, e⟩ := kmem v hv
    rw [e]
    obtain ⟨_, its2, r2, o, ho, hc, n, hd⟩ := I1.hok _ _ ht
    obtain ⟨u1, u2, rfl, ri, rj⟩ := vals2 r2
    obtain ⟨t1, rfl⟩ := ri
    obtain ⟨t2, rfl⟩ := rj
    exact ⟨q, o, t1, t2, n, rfl, Heap.get?_push_of_some _ ho, hc, hd⟩
  refine wpAny_bind (wpAny_holding (wpAny_call_entry PyProof.Rows.slot_list_sort ⟨_, hoL, rfl⟩ PyProof.Rows.entry_list_sort
    (SrtO.list_sort_ord (s := { s with heap := h'.push (seqObj "list" acc.toList.toArray 0), toks := tk }) (SrtO.swo_lex fun u => pairAt H (backV u)) hoL (by rw [hal]; exact h16) (fun h2 => SrtO.pairs_sortableO (by omega) hp fun o e => ?_) fun out h1 h2 => ⟨_, rfl, ?_⟩)
    (PyProof.Rows.args_list_sort _)))
  · have e' : some o = some (seqObj "list" acc.toList.toArray 0) := e.symm.trans hoL
    cases e'
    intro c
    exact absurd (Value.type.inj c) (by decide)
  · have hm : ∀ v ∈ out, v ∈ acc.toList := fun v hv => h2.perm.mem_iff.mp hv
    have h3 : ∀ u ∈ out, ∃ a, u = Value.ref a := fun u hu => let ⟨_, q, e, _⟩ := kmem u (hm u hu); ⟨q, e⟩
    obtain ⟨e', he'⟩ := PyProof.Rows.sortedHeap_at (vs := acc.toList) (out := out.toArray) hoL
    have hlen : (out.map backV).length ≤ sizeLine := by
      rw [List.length_map, h2.perm.length_eq, hal]
      exact h16
    refine wpAny_pure ⟨_, rfl, .ref h'.objs.size, upd H h'.objs.size (.lst (out.map backV)), I1.laid (t' := tk) (fun b u e => ?_) (Nat.le_refl _)
      (show ObjOk X.prog X.w _ _ _ (.lst (out.map backV)) from ⟨hlen, out, e', vals_back h3, he'⟩), rfl, q (out.map fun v => pairAt H (backV v)) (out.map backV) _ ?_ ?_ ?_ (I1.hok.fresh (Nat.le_refl _))⟩
    · have hb : b < h'.objs.size := Heap.lt_size e
      rw [PyProof.Rows.sortedHeap_old (Nat.ne_of_lt hb) (by rw [size_push']; exact Nat.lt_succ_of_lt hb)]
      exact Heap.get?_push_of_some _ e
    · rw [← hmap]
      exact h2.perm.map _
    · refine List.pairwise_map.mpr (h1.imp fun {x y} h => ?_)
      have := SrtO.lexB_no.mp h
      unfold lexLe
      omega
    · have gen : ∀ l : List Value, (∀ v ∈ l, v ∈ acc.toList) → Paired (fun k z => ∃ q, z = V.ref q ∧ H q = some (.tup [.int k.1, .int k.2])) (l.map fun v => pairAt H (backV v)) (l.map backV) := fun l => by
        induction l with
        | nil => exact fun _ => .nil
        | cons v l ih =>
          intro h
          obtain ⟨k, q, rfl, ht, e⟩ := kmem v (h v (by simp))
          refine .cons ⟨q, rfl, ?_⟩ (ih fun u hu => h u (by simp [hu]))
          show H q = some (.tup [V.int (pairAt H (backV (Value.ref q))).1, V.int (pairAt H (backV (Value.ref q))).2])
          rw [e]
          exact ht
      exact gen out hm
end K8
/-! _law_net: a net drawn from the script -/
namespace K8
open PySem PySem.Spec PyProof.Rows L2 Evl
/-! what stays while the row changes -/
theorem PairP.sub {H H' : Hp} {t : Top} {v : V} (e : Sub H H') : PairP H t v → PairP H' t v := fun ⟨p, a, b⟩ => ⟨p, a, e _ _ b fun _ _ _ _ z => nomatch z⟩
theorem RodP.sub {H H' : Hp} {t : Rod} {v : V} (e : Sub H H') : RodP H t v → RodP H' t v := fun ⟨p, a, b⟩ => ⟨p, a, e _ _ b fun _ _ _ _ z => nomatch z⟩
theorem IntsT.sub {H H' : Hp} {l : List Int} {v : V} (e : Sub H H') : IntsT H l v → IntsT H' l v := fun ⟨p, a, b⟩ => ⟨p, a, e _ _ b fun _ _ _ _ z => nomatch z⟩
theorem TupOf.sub {α : Type} {H H' : Hp} {v : V} {P : Hp → α → V → Prop} {l : List α} (hP : ∀ a v, P H a v → P H' a v) (e : Sub H H') : TupOf P H l v → TupOf P H' l v := fun ⟨p, vs, a, b, c⟩ => ⟨p, vs, a, (e _ _ b fun _ _ _ _ z => nomatch z), pr_mono hP c⟩
theorem NetP.sub {H H' : Hp} {v : V} {n : Nat} {rods : List Rod} (e : Sub H H') : NetP H n rods v → NetP H' n rods v := fun ⟨p, w, a, b, c⟩ => ⟨p, w, a, (e _ _ b fun _ _ _ _ z => nomatch z), c.sub (fun _ _ => RodP.sub e) e⟩
theorem rowV_row {n : Nat} {f : Nat → Int} : ∀ a i m q, HO.lst (rowV n f) ≠ rowO a i m q := fun a i m q => by
  have := ints_row (ns := (List.range n).map f) a i m q
  rw [List.map_map] at this
  exact this
theorem TabP.sub {H H' : Hp} {v : V} {n : Nat} {D : Tab} (e : Sub H H') : TabP n H D v → TabP n H' D v := fun ⟨p, vs, a, b, c, d⟩ => ⟨p, vs, a, (e _ _ b fun r i m q z => by
  injection z with z
  subst z
  obtain ⟨_, x, _⟩ := d 1 (by rw [← c]; show 1 < 4; omega)
  cases x), c, fun i hi => by
  obtain ⟨q, x, y⟩ := d i hi
  exact ⟨q, x, e _ _ y rowV_row⟩⟩
theorem dT_row {l : List (List L2.Key × V)} : ∀ a i m q, HO.dT l ≠ rowO a i m q := fun _ _ _ _ z => nomatch z
/-! the rods in a dict -/
def rk (r : Rod) : Int × Int := ((r.1 : Int), (r.2.1 : Int))
def rodsD (l : List Rod) : List (List L2.Key × V) := l.map fun r => (key2 (rk r), V.int r.2.2)
def putR (l : List Rod) (r : Rod) : List Rod := if (l.any fun s => decide (rk s = rk r)) = true then l.map (fun s => if rk s = rk r then r else s) else l ++ [r]
theorem key2_inj {p q : Int × Int} : key2 p = key2 q ↔ p = q := by
  constructor
  · intro h
    unfold key2 at h
    injection h with h1 h2
    injection h1 with h1
    injection h2 with h2 _
    injection h2 with h2
    exact Prod.ext h1 h2
  · exact fun h => by rw [h]
theorem putR_D (l : List Rod) (r : Rod) : putK (rodsD l) (key2 (rk r)) (.int r.2.2) = rodsD (putR l r) := by
  unfold putK putR rodsD
  rw [List.any_map]
  have e : ((fun kv : List L2.Key × V => decide (kv.1 = key2 (rk r))) ∘ fun s : Rod => (key2 (rk s), V.int s.2.2)) = fun s => decide (rk s = rk r) := by
    funext s
    show decide (key2 (rk s) = key2 (rk r)) = _
    rw [decide_eq_decide]
    exact key2_inj
  rw [e]
  split
  · rw [List.map_map, List.map_map]
    refine List.map_congr_left fun s _ => ?_
    show (if key2 (rk s) = key2 (rk r) then (key2 (rk s), V.int r.2.2) else (key2 (rk s), V.int s.2.2)) = (key2 (rk (if rk s = rk r then r else s)), V.int (if rk s = rk r then r else s).2.2)
    by_cases c : rk s = rk r
    · rw [if_pos (key2_inj.mpr c), if_pos c, c]
    · rw [if_neg (fun z => c (key2_inj.mp z)), if_neg c]
  · rw [List.map_append]
    rfl
theorem mem_putR {l : List Rod} {r s : Rod} : s ∈ putR l r → s = r ∨ (s ∈ l ∧ rk s ≠ rk r) := by
  unfold putR
  split
  · intro h
    obtain ⟨u, hu, rfl⟩ := List.mem_map.mp h
    by_cases c : rk u = rk r
    · rw [if_pos c]
      exact .inl rfl
    · rw [if_neg c]
      exact .inr ⟨hu, c⟩
  · rename_i h
    intro hs
    rcases List.mem_append.mp hs with hs | hs
    · refine .inr ⟨hs, fun c => h (List.any_eq_true.mpr ⟨s, hs, decide_eq_true c⟩)⟩
    · exact .inl (List.mem_singleton.mp hs)
theorem self_putR (l : List Rod) (r : Rod) : r ∈ putR l r := by
  unfold putR
  split
  · rename_i h
    obtain ⟨s, hs, e⟩ := List.any_eq_true.mp h
    exact List.mem_map.mpr ⟨s, hs, if_pos (of_decide_eq_true e)⟩
  · exact List.mem_append.mpr (.inr (List.mem_singleton.mpr rfl))
theorem keep_putR {l : List Rod} {r s : Rod} (h : s ∈ l) (c : rk s ≠ rk r) : s ∈ putR l r := by
  unfold putR
  split
  · exact List.mem_map.mpr ⟨s, h, if_neg c⟩
  · exact List.mem_append.mpr (.inl h)
theorem len_putR (l : List Rod) (r : Rod) : (putR l r).length ≤ l.length + 1 := by
  unfold putR
  split
  · rw [List.length_map]
    omega
  · rw [List.length_append]
    exact Nat.le_refl _
theorem keys_putR (l : List Rod) (r : Rod) (h : (l.map rk).Nodup) : ((putR l r).map rk).Nodup := by
  unfold putR
  split
  · rw [List.map_map, show l.map (rk ∘ fun s => if rk s = rk r then r else s) = l.map rk from List.map_congr_left fun s _ => by
      show rk (if rk s = rk r then r else s) = rk s
      by_cases c : rk s = rk r
      · rw [if_pos c, c]
      · rw [if_neg c]]
    exact h
  · rename_i c
    rw [List.map_append, List.nodup_append]
    refine ⟨h, by simp, fun a ha b hb z => ?_⟩
    obtain ⟨s, hs, rfl⟩ := List.mem_map.mp ha
    simp only [List.map_cons, List.map_nil, List.mem_singleton] at hb
    exact c (List.any_eq_true.mpr ⟨s, hs, decide_eq_true (z.trans hb)⟩)
structure DOk (n m : Nat) (l : List Rod) : Prop where
  rod : ∀ r ∈ l, r.1 < r.2.1 ∧ r.2.1 < n ∧ 1 ≤ r.2.2 ∧ r.2.2 ≤ 4
  nd : (l.map rk).Nodup
  con : ∀ p, 1 ≤ p → p < m → ∃ (q : Nat) (x : Int), q < p ∧ (q, p, x) ∈ l
theorem rk_inj {r : Rod} {i j : Nat} {x : Int} (h : rk (i, j, x) = rk r) : r.1 = i ∧ r.2.1 = j := by
  unfold rk at h
  have h1 := congrArg Prod.fst h
  have h2 := congrArg Prod.snd h
  simp only at h1 h2
  omega
theorem DOk.put {n m : Nat} {l : List Rod} (D : DOk n m l) {r : Rod} (h : r.1 < r.2.1 ∧ r.2.1 < n ∧ 1 ≤ r.2.2 ∧ r.2.2 ≤ 4) : DOk n m (putR l r) where
  rod s hs := by
    rcases mem_putR hs with rfl | ⟨hs, _⟩
    · exact h
    · exact D.rod s hs
  nd := keys_putR l r D.nd
  con p h1 h2 := by
    obtain ⟨q, x, hq, hm⟩ := D.con p h1 h2
    by_cases c : rk (q, p, x) = rk r
    · obtain ⟨e1, e2⟩ := rk_inj c
      refine ⟨q, r.2.2, hq, ?_⟩
      have := self_putR l r
      have e : r = (q, p, r.2.2) := by rw [← e1, ← e2]
      rw [← e]
      exact this
    · exact ⟨q, x, hq, keep_putR hm c⟩
theorem DOk.next {n m : Nat} {l : List Rod} (D : DOk n m l) {r : Rod} (h : r.1 < r.2.1 ∧ r.2.1 < n ∧ 1 ≤ r.2.2 ∧ r.2.2 ≤ 4) (hm : r.2.1 = m) : DOk n (m + 1) (putR l r) where
  rod := (D.put h).rod
  nd := (D.put h).nd
  con p h1 h2 := by
    by_cases c : p = m
    · subst c
      exact ⟨r.1, r.2.2, by omega, by
        have := self_putR l r
        rw [← hm]
        exact this⟩
    · exact (D.put h).con p h1 (by omega)
def lenAt : List Rod → Int × Int → Int
  | [], _ => 0
  | r :: l, k => if rk r = k then r.2.2 else lenAt l k
theorem lenAt_of : ∀ {l : List Rod} {k : Int × Int}, k ∈ l.map rk → ∃ r ∈ l, rk r = k ∧ lenAt l k = r.2.2 ∧ valV (rodsD l) (key2 k) = some (.int r.2.2)
  | [], k, h => by simp at h
  | r :: l, k, h => by
    by_cases c : rk r = k
    · exact ⟨r, by simp, c, if_pos c, valV_pos (p := (key2 (rk r), V.int r.2.2)) (by rw [c])⟩
    · rw [List.map_cons, List.mem_cons] at h
      obtain ⟨s, hs, e, h1, h2⟩ := lenAt_of (h.resolve_left (Ne.symm c))
      exact ⟨s, by simp [hs], e, (if_neg c).trans h1, (valV_neg (p := (key2 (rk r), V.int r.2.2)) fun z => c (key2_inj.mp z)).trans h2⟩
theorem lenAt_mem : ∀ {l : List Rod} {r : Rod}, (l.map rk).Nodup → r ∈ l → lenAt l (rk r) = r.2.2
  | [], _, _, h => by simp at h
  | s :: l, r, nd, h => by
    rw [List.map_cons, List.nodup_cons] at nd
    rcases List.mem_cons.mp h with rfl | h
    · exact if_pos rfl
    · have c : rk s ≠ rk r := fun z => nd.1 (by rw [z]; exact List.mem_map.mpr ⟨r, h, rfl⟩)
      exact (if_neg c).trans (lenAt_mem nd.2 h)
def rodAt (l : List Rod) (k : Int × Int) : Rod := (k.1.toNat, k.2.toNat, lenAt l k)
theorem netOk_of {n : Nat} {l : List Rod} {ys : List (Int × Int)} (h1 : 1 ≤ n) (h4 : n ≤ 4) (D : DOk n n l) (hp : ys.Perm (l.map rk)) (hs : ys.Pairwise lexLe) : NetOk n (ys.map (rodAt l)) := by
  have at_ : ∀ k ∈ ys, ∃ r ∈ l, rk r = k ∧ rodAt l k = r := fun k hk => by
    obtain ⟨r, hr, e, hl, _⟩ := lenAt_of (hp.mem_iff.mp hk)
    refine ⟨r, hr, e, ?_⟩
    unfold rodAt
    rw [hl, ← e]
    unfold rk
    rfl
  refine ⟨h1, h4, fun r hr => ?_, ?_, fun p h1 h2 => ?_⟩
  · obtain ⟨k, hk, rfl⟩ := List.mem_map.mp hr
    obtain ⟨r, hr, _, e⟩ := at_ k hk
    rw [e]
    exact D.rod r hr
  · refine List.pairwise_map.mpr ?_
    have nd : ys.Nodup := hp.nodup_iff.mpr D.nd
    have both := List.Pairwise.and hs nd
    refine List.Pairwise.imp_of_mem (fun {a b} ha hb h => ?_) both
    obtain ⟨r, hr, e1, e2⟩ := at_ a ha
    obtain ⟨s, hs, e3, e4⟩ := at_ b hb
    obtain ⟨hle, hne⟩ := h
    rw [e2, e4]
    rw [← e1, ← e3] at hle hne
    have ne2 : ¬ (r.1 = s.1 ∧ r.2.1 = s.2.1) := fun z => hne (by unfold rk; rw [z.1, z.2])
    unfold lexLe rk at hle
    simp only at hle
    omega
  · obtain ⟨q, x, hq, hm⟩ := D.con p h1 h2
    refine ⟨q, x, hq, List.mem_map.mpr ⟨rk (q, p, x), hp.mem_iff.mpr (List.mem_map.mpr ⟨_, hm, rfl⟩), ?_⟩⟩
    unfold rodAt
    rw [lenAt_mem D.nd hm]
    rfl
section
variable {K : PySem.W.Frag} {σ : L2.St} {H : Hp} {te tl : TE} {tt : TT} {ns : Addr × List Int} {r : Addr} {i j : Nat} {vs : List Nat}
/-- a number is taken -/
theorem take_raw {E : XK} {Q : VK} {many : Int} (hrow : RowP K ns H r) (hv : σ[i]? = some (some (.ref r))) (ha : Ev te σ H (.int many)) (h0 : 0 < many) (h1 : many ≤ 1000000) (k : ∀ x H', Sub H H' → RowP K ns H' r → 0 ≤ x → x < many → Q (.int x) H') : tCall (spTaken K) [] E (tCons (tVar i) (tCons te tNil)) σ H Q :=
  ⟨_, hv, ha H (Ex.refl H) _ fun H1 e => ⟨r, ns, many, rfl, hrow.mono e, h0, h1, fun x H' s hr a b => k x H' ((Ex.sub e).trans s) hr a b⟩⟩
theorem els_pairsL {q : Addr} {ws : List V} {tops : List Top} (hv : Ev tl σ H (.ref q)) (hq : H q = some (.lst ws)) (hw : Paired (PairP H) tops ws) (hz : tops.length ≤ 40000) (hwp : ∀ a b, wipe (((wipe σ vs).set i (some a)).set j (some b)) vs = wipe σ vs) (f : Top → Bool) (o : Top → HO)
    (ht : ∀ t ∈ tops, ∀ H1, Ex H H1 → EvT tt (((wipe σ vs).set i (some (.int (t.1 : Nat)))).set j (some (.int t.2))) H1 (f t)) (he : ∀ t ∈ tops, ∀ H1, Ex H H1 → f t = true → EvN te (((wipe σ vs).set i (some (.int (t.1 : Nat)))).set j (some (.int t.2))) H1 (o t)) :
    EvLs (tLc (iList K tl) (gTup K 2 (gCons (gName i) (gCons (gName j) gNil))) tt te vs) σ H ((tops.filter f).map o) := by
  have hl := pr_len hw
  have h := els_lcW (walks_list (K := K) hv (sq_of hq)) (by omega) (g := gTup K 2 (gCons (gName i) (gCons (gName j) gNil))) (vs := vs) (t := tt) (te := te) (fun k y => ((wipe σ vs).set i (some (.int ((tops.getD k (0, 0)).1 : Nat)))).set j (some (.int (tops.getD k (0, 0)).2)))
    (fun k y H1 e hy Q qq => by
      obtain ⟨t, r, ht, rfl, hr⟩ := top_at hw hy
      refine g_two (e _ _ hr) ?_
      rw [pair_getD ht] at qq
      exact qq) (fun _ _ _ => hwp _ _) (fun k => f (tops.getD k (0, 0))) (fun k => o (tops.getD k (0, 0)))
    (fun k y H1 e hy => by
      obtain ⟨t, r, ht', rfl, hr⟩ := top_at hw hy
      simp only [pair_getD ht']
      exact ht t (List.mem_of_getElem? ht') H1 e)
    (fun k y H1 e hy hf => by
      obtain ⟨t, r, ht', rfl, hr⟩ := top_at hw hy
      simp only [pair_getD ht'] at hf ⊢
      exact he t (List.mem_of_getElem? ht') H1 e hf)
  rw [← hl, range_filter_get (0, 0) f o] at h
  exact h
theorem ev_dgetT {td tk : TE} {d : Addr} {kvs : List (List L2.Key × V)} {k : Int × Int} {v : V} (h1 : Ev td σ H (.ref d)) (h2 : EvU tk σ H [.int k.1, .int k.2]) (hd : H d = some (.dT kvs)) (hv : valV kvs (key2 k) = some v) : Ev (tDGet td tk) σ H v := fun H1 e Q q =>
  h1 H1 e _ fun H2 e2 => h2 H2 (e.trans e2) _ fun p H3 hp e3 h3 => ⟨d, v, rfl, .inr ⟨kvs, key2 k, p, .inl ((e.trans e2).trans e3 |> fun z => z _ _ hd), rfl, h3, hv.symm⟩, q H3 (e2.trans e3)⟩
theorem s_rtup {ta : TA} {D : Ends} (h : ta σ H fun xs H1 => xs.length ≤ sizeLine ∧ ∀ p, H1 p = none → D.rt (.ref p) (upd H1 p (.tup xs))) : tRet (tTup ta) D σ H := h
theorem raw_cons {tr : TA} {Q : List V → Hp → Prop} (h : te σ H fun x H1 => tr σ H1 fun vs H2 => Q (x :: vs) H2) : tCons te tr σ H Q := h
theorem raw_cb {rc : List V → Hp → VK → Prop} {Q : VK} (h : te σ H fun x H1 => rc [x] H1 Q) : tCB rc (tCons te tNil) σ H Q := h
theorem raw_var {v : V} {Q : VK} (hv : σ[i]? = some (some v)) (h : Q v H) : tVar i σ H Q := ⟨v, hv, h⟩
theorem lc_sortedDT {g : TG} {d : Addr} {kvs : List (List L2.Key × V)} {ks : List (Int × Int)} {Q : VK} (hv : σ[i]? = some (some (.ref d))) (hd : H d = some (.dT kvs)) (hks : kvs.map (·.1) = ks.map key2)
    (k : ∀ (ys : List (Int × Int)) (zs : List V) (p : Addr), ys.Perm ks → ys.Pairwise lexLe → Paired (fun k z => ∃ q, z = .ref q ∧ H q = some (.tup [.int k.1, .int k.2])) ys zs → H p = none → tLc (iList K (tC (.ref p))) g tt te vs σ (upd H p (.lst zs)) Q) :
    tLc (iList K (tCB rSortDT (tCons (tVar i) tNil))) g tt te vs σ H Q := ⟨.ref d, hv, d, kvs, ks, rfl, hd, hks, fun ys zs p a b c e => k ys zs p a b c e⟩
theorem pr_mem {α β : Type} {F : α → β → Prop} : ∀ {l : List α} {m : List β}, Paired F l m → Paired (fun a b => a ∈ l ∧ F a b) l m
  | _, _, .nil => .nil
  | _, _, .cons f t => .cons ⟨by simp, f⟩ (pr_mono (fun a b h => ⟨by simp [h.1], h.2⟩) (pr_mem t))
/-- the loop over a range that is drawn -/
theorem q_forTake {ta : TA} {tu : TS} {tz : TS} {D : Ends} (W : Hp → Prop) (Pv : Nat → Nat → L2.St → Hp → Prop) (h : ∀ R : List V → Hp → Prop, (∀ (n : Nat) H1, n ≤ 100 → W H1 → R [.int (n : Nat)] H1) → ta σ H R) (h0 : ∀ n H1, n ≤ 100 → W H1 → Pv n 0 σ H1)
    (hs : ∀ (n i : Nat) σ' H', n ≤ 100 → i < n → Pv n i σ' H' → tu { D with nx := Pv n (i + 1), ct := Pv n (i + 1), bk := tz D } (σ'.set j (some (.int (i : Int)))) H') (hd : ∀ n σ' H', n ≤ 100 → Pv n n σ' H' → tz D σ' H') : tSeq (tFor (iRng1 ta) (gName j) tu) tz D σ H :=
  h _ fun n H1 hn hW => ⟨(n : Int), rfl, by omega, by omega, for_range (D := { D with nx := tz D }) (lo := 0) (n := n) (Pv n) (h0 n H1 hn hW) (fun i σ' H' hi p => by
    have e0 : (0 : Int) + (i : Int) = (i : Int) := Int.zero_add _
    show tu { D with nx := Pv n (i + 1), ct := Pv n (i + 1), bk := tz D } (σ'.set j (some (.int ((0 : Int) + (i : Int))))) H'
    rw [e0]
    exact hs n i σ' H' hn (by omega) p) (fun σ' H' p => hd n σ' H' hn p)⟩
end
section
variable {P : Program} {w : World} {K : PySem.W.Frag} {mg : Str → Option Value} {base : Heap}
theorem sc_law_net : FnScope ["_law_row", "_law_most", "_law_long", "_law_many", "_law_rods", "_law_place", "_law_turn", "_law_one", "_law_other"] ["_law_row", "_law_most", "_law_long"] (defScope (topS 32)) := ⟨rfl, rfl, rfl, by decide +kernel, rfl, by decide +kernel, by decide +kernel⟩
def spLawNet (K : PySem.W.Frag) : Sp := fun vs H Q _ => ∃ (r : Addr) (ns : Addr × List Int) (long : Int), vs = [.ref r, .int 4, .int long] ∧ RowP K ns H r ∧ 1 ≤ long ∧ long ≤ 4 ∧ ∀ n rods v H', Sub H H' → RowP K ns H' r → NetOk n rods → NetP H' n rods v → Q v H'
def LW (K : PySem.W.Frag) (ns : Addr × List Int) (r d : Addr) (H H' : Hp) (l : List Rod) : Prop := Sub H H' ∧ RowP K ns H' r ∧ (∀ o, H d = some o → ∃ a i m q, o = rowO a i m q) ∧ H' d = some (.dT (rodsD l))
theorem LW.step {ns : Addr × List Int} {r d : Addr} {H H1 H2 : Hp} {l : List Rod} (h : LW K ns r d H H1 l) (s : Sub H1 H2) (hr : RowP K ns H2 r) : LW K ns r d H H2 l := ⟨h.1.trans s, hr, h.2.2.1, s _ _ h.2.2.2 dT_row⟩
theorem LW.ex {ns : Addr × List Int} {r d : Addr} {H H1 H2 : Hp} {l : List Rod} (h : LW K ns r d H H1 l) (s : Ex H1 H2) : LW K ns r d H H2 l := h.step (Ex.sub s) (h.2.1.mono s)
theorem LW.put {ns : Addr × List Int} {r d p : Addr} {H H1 : Hp} {l : List Rod} {x : Rod} (h : LW K ns r d H H1 l) (hp : H1 p = some (.tup [.int (x.1 : Nat), .int (x.2.1 : Nat)])) (hl : l.length < 1000) : ∃ H2, DPut H1 d (.ref p) (.int x.2.2) H2 ∧ LW K ns r d H H2 (putR l x) := by
  obtain ⟨h1, ⟨i, m, q, i0, hr, hs⟩, h3, h4⟩ := h
  refine ⟨_, DPut.t (k := key2 (rk x)) h4 hp (by rw [show (rodsD l).length = l.length from List.length_map ..]; exact Nat.lt_of_lt_of_le hl (by decide)), ?_⟩
  rw [putR_D]
  have hdr : r ≠ d := fun z => by
    subst z
    rw [hr] at h4
    cases h4
  have hs' : Sub H (upd H1 d (.dT (rodsD (putR l x)))) := fun p o ho n => by
    have c : p ≠ d := fun z => by
      subst z
      obtain ⟨a, i, m, q, e⟩ := h3 o ho
      exact n a i m q e
    rw [upd_ne c]
    exact h1 p o ho n
  refine ⟨hs', ⟨i, m, q, i0, (upd_ne hdr).trans hr, ?_⟩, h3, upd_same⟩
  rcases hs with (hs | ⟨o, hs⟩) | hs
  · have c : ns.1 ≠ d := fun z => by
      rw [z, h4] at hs
      cases hs
    exact .inl (.inl ((upd_ne c).trans hs))
  · have c : ns.1 ≠ d := fun z => by
      rw [z, h4] at hs
      cases hs
    exact .inl (.inr ⟨o, (upd_ne c).trans hs⟩)
  · exact .inr hs
theorem ok_law_net (D : Dv K mg "_law_net" (topS 32) ["_law_row", "_law_most", "_law_long"]) (G : Glob mg) (c_law_taken : Ca P w K mg base 1 "_law_taken" (spTaken K)) : Ca P w K mg base 2 "_law_net" (spLawNet K) := by
  refine dv_ok D sc_law_net (fun vs H Q E h => ?_) (fun f cdv A outer s H vs Q E hr h => ?_)
  · obtain ⟨r, ns, long, rfl, _⟩ := h
    rfl
  · obtain ⟨r, ns, long, rfl, hrow, l1, l4, k⟩ := h
    refine ⟨_, (pss_cons (ps_asg (pe_tup (pa_cons (pe_op op_add pe_int (C8.pe_c c_law_taken hr (by decide) rfl (pa_cons (pv 0) (pa_cons (pv 1) pa_nil)))) (pa_cons pe_dnewT pa_nil))) (pg_tup rfl (pgs_cons (pg_name (i := 3) sc_law_net.nd rfl (Or.inl rfl)) (pgs_cons (pg_name (i := 4) sc_law_net.nd rfl (Or.inr rfl)) pgs_nil))))
      (pss_cons (ps_for PassesOwn.never rfl (pi_range2 (by rfl) G.range_ (pa_cons pe_int (pa_cons (pv 3) pa_nil))) (pg_name (i := 5) sc_law_net.nd rfl (Or.inl rfl)) (pss_one (ps_dput (hu_of hr) (pv 4) (pe_tup (pa_cons (C8.pe_c c_law_taken hr (by decide) rfl (pa_cons (pv 0) (pa_cons (pv 5) pa_nil))) (pa_cons (pv 5) pa_nil))) (pe_op op_add pe_int (C8.pe_c c_law_taken hr (by decide) rfl (pa_cons (pv 0) (pa_cons (pv 2) pa_nil)))) rfl)))
      (pss_cons (ps_for PassesOwn.never rfl (pi_range1 (by rfl) G.range_ (pa_cons (pe_ifExp (pt_cmpR op_gt (pv 3) pe_int (nomark _)) (C8.pe_c c_law_taken hr (by decide) rfl (pa_cons (pv 0) (pa_cons pe_int pa_nil))) pe_int) pa_nil)) (pg_name (i := 6) sc_law_net.nd rfl (Or.inl rfl)) (pss_cons (ps_par (i := 7) (j := 8) rfl sc_law_net.nd rfl rfl (by decide) rfl rfl (pa_cons (C8.pe_c c_law_taken hr (by decide) rfl (pa_cons (pv 0) (pa_cons (pv 3) pa_nil))) (pa_cons (C8.pe_c c_law_taken hr (by decide) rfl (pa_cons (pv 0) (pa_cons (pv 3) pa_nil))) pa_nil)) (by rfl))
      (pss_one (ps_if (pt_cmpR op_ne (pv 7) (pv 8) (nomark _)) (pss_one (ps_dput (hu_of hr) (pv 4) (pe_tup (pa_cons (pe_callB (call_min2 rfl) (by rfl) G.min_ (by decide +kernel) (pa_cons (pv 7) (pa_cons (pv 8) pa_nil))) (pa_cons (pe_callB (call_max2 rfl) (by rfl) G.max_ (by decide +kernel) (pa_cons (pv 7) (pa_cons (pv 8) pa_nil))) pa_nil))) (pe_op op_add pe_int (C8.pe_c c_law_taken hr (by decide) rfl (pa_cons (pv 0) (pa_cons (pv 2) pa_nil)))) rfl)) pss_nil))))
      (pss_one (ps_ret (pe_tup (pa_cons (pv 3) (pa_cons (pe_callTy call_tuple_of (by rfl) G.tuple_ (by decide +kernel) (pa_cons (pe_lc (own := [("_law_one", 7), ("_law_other", 8)]) (g := (gTup K 2 (gCons (gName 7) (gCons (gName 8) gNil)))) (tt := tYes) rfl sc_law_net.nd (pi_list (pe_callB (call_sortedDT rfl) (by rfl) G.sorted_ (by decide +kernel) (pa_cons (pv 4) pa_nil))) (blkOk_by (own := [("_law_one", 7), ("_law_other", 8)]) (N := ["_law_row", "_law_most", "_law_long", "_law_many", "_law_rods", "_law_place", "_law_turn", "_law_one", "_law_other"]) (sc := (defScope (topS 32))) (by decide +kernel)) (fun _ _ _ _ _ => (pg_tup rfl (pgs_cons (pg_name (i := 7) sc_law_net.nd rfl (Or.inl rfl)) (pgs_cons (pg_name (i := 8) sc_law_net.nd rfl (Or.inl rfl)) pgs_nil)))) (fun _ _ _ _ _ => pts_nil) (fun _ _ _ _ _ => (pe_tup (pa_cons (pv 7) (pa_cons (pv 8) (pa_cons (pe_dget (hu_of hr) (pv 4) (pe_tup (pa_cons (pv 7) (pa_cons (pv 8) pa_nil))) (fun _ _ => rfl)) pa_nil)))))) pa_nil)) pa_nil)))))))), ?_⟩
    refine q_tup (take_raw hrow rfl (ev_var rfl) (by omega) (by omega) fun x H1 s1 r1 x0 x4 => ⟨1, x, rfl, rfl, fun d hd => ⟨by show 2 ≤ sizeLine; decide, fun pt hpt => ?_⟩⟩)
    obtain ⟨y, rfl⟩ : ∃ y : Nat, x = (y : Int) := ⟨x.toNat, by omega⟩
    generalize hn : y + 1 = n
    have hn1 : (fun i j : Int => V.int (i + j)) 1 (y : Int) = V.int (n : Int) := congrArg V.int (by omega)
    rw [hn1]
    refine g_two upd_same ?_
    generalize hB : upd (upd H1 d (.dT [])) pt (.tup [.int (n : Int), .ref d]) = B
    have hB1 : Ex H1 B := by
      rw [← hB]
      exact (Ex.new hd).trans (Ex.new hpt)
    have hB2 : B d = some (.dT []) := by
      rw [← hB, upd_ne (fun z => by rw [← z, upd_same] at hpt; cases hpt)]
      exact upd_same
    have hd0 : ∀ o, H d = some o → ∃ a i m q, o = rowO a i m q := fun o z => by
      apply Classical.byContradiction
      intro c
      rw [s1 d o z (fun a i m q e => c ⟨a, i, m, q, e⟩)] at hd
      cases hd
    have sB : LW K ns r d H B [] := ⟨s1.trans (Ex.sub hB1), r1.mono hB1, hd0, hB2⟩
    refine q_forR2 (lo := 1) (n := (n : Int)) (ea_cons ev_c (ea_cons (ev_var rfl) ea_nil)) (by omega) (fun i σ' H' => ∃ l y5, LW K ns r d H H' l ∧ DOk n (i + 1) l ∧ l.length ≤ i ∧ σ' = [some (.ref r), some (.int 4), some (.int long), some (.int (n : Int)), some (.ref d), y5, none, none, none])
      (fun H2 e2 => ⟨[], _, sB.ex e2, ⟨by simp, by simp, fun p h1 h2 => by omega⟩, by simp, rfl⟩) ?_ ?_
    · rintro i σ' H' hi ⟨l, y5, hL, hD, hll, rfl⟩
      have ei : (1 : Int) + (i : Int) = ((i + 1 : Nat) : Int) := by omega
      rw [ei]
      refine take_raw hL.2.1 rfl (ev_var rfl) (by omega) (by omega) fun x H2 s2 r2 x0 x4 => ⟨1, x, rfl, rfl, ?_⟩
      refine raw_var rfl (take_raw r2 rfl (ev_var rfl) (by omega) (by omega) fun z H3 s3 r3 z0 z1 => raw_var rfl ⟨by show 2 ≤ sizeLine; decide, fun p hp => ?_⟩)
      obtain ⟨zn, rfl⟩ : ∃ y : Nat, z = (y : Int) := ⟨z.toNat, by omega⟩
      obtain ⟨H4, hput, hL4⟩ := LW.put (x := (zn, i + 1, 1 + x)) (((hL.step s2 r2).step s3 r3).ex (Ex.new hp)) upd_same (by omega)
      exact ⟨d, H4, rfl, hput, _, _, hL4, hD.next (by simp only; omega) rfl, by have := len_putR l (zn, i + 1, 1 + x); omega, rfl⟩
    · rintro σ' H' ⟨l0, y5, hL0, hD0, hll0, rfl⟩
      rw [show ((n : Int) - 1).toNat + 1 = n by omega] at hD0
      refine q_forTake (fun H1 => LW K ns r d H H1 l0) (fun m i σ' H' => ∃ l y6 y7 y8, LW K ns r d H H' l ∧ DOk n n l ∧ l.length ≤ n + i ∧ σ' = [some (.ref r), some (.int 4), some (.int long), some (.int (n : Int)), some (.ref d), y5, y6, y7, y8]) (fun R hR => ?_) (fun m H1 hm hW => ⟨l0, _, _, _, hW, hD0, by omega, rfl⟩) ?_ ?_
      · refine (et_test (b := decide ((2 : Int) < (n : Int))) (ev_gt (ev_var rfl) ev_c)) H' (Ex.refl _) _ fun H2 e2 => ?_
        generalize decide ((2 : Int) < (n : Int)) = b
        cases b with
        | true =>
          refine take_raw (hL0.ex e2).2.1 rfl ev_c (by omega) (by omega) fun x H3 s3 r3 x0 x4 => ?_
          obtain ⟨xn, rfl⟩ : ∃ y : Nat, x = (y : Int) := ⟨x.toNat, by omega⟩
          exact hR xn H3 (by omega) ((hL0.ex e2).step s3 r3)
        | false => exact hR 0 H2 (by omega) (hL0.ex e2)
      · rintro m i σ' H2 hm hi ⟨l, y6, y7, y8, hL, hD, hll, rfl⟩
        refine q_par (take_raw hL.2.1 rfl (ev_var rfl) (by omega) (by omega) fun x H3 s3 r3 x0 x1 => take_raw r3 rfl (ev_var rfl) (by omega) (by omega) fun z H4 s4 r4 z0 z1 => ⟨_, _, rfl, ?_⟩)
        have hL4 := (hL.step s3 r3).step s4 r4
        obtain ⟨xn, rfl⟩ : ∃ y : Nat, x = (y : Int) := ⟨x.toNat, by omega⟩
        obtain ⟨zn, rfl⟩ : ∃ y : Nat, z = (y : Int) := ⟨z.toNat, by omega⟩
        refine s_when (b := decide ((xn : Int) ≠ (zn : Int))) (et_test (ev_neI (ev_var rfl) (ev_var rfl))) (fun hb H5 e5 => ?_) fun hb H5 e5 => ⟨l, _, _, _, hL4.ex e5, hD, by omega, rfl⟩
        have hb : (xn : Int) ≠ (zn : Int) := of_decide_eq_true hb
        have hL5 := hL4.ex e5
        refine take_raw hL5.2.1 rfl (ev_var rfl) (by omega) (by omega) fun x H6 s6 r6 x0 x4 => ⟨1, x, rfl, rfl, ?_⟩
        refine raw_var rfl ((eu_tup (ea_cons (ev_mn2 (ev_var rfl) (ev_var rfl)) (ea_cons (ev_mx2 (ev_var rfl) (ev_var rfl)) ea_nil)) (by show 2 ≤ 100000; omega)) H6 (Ex.refl _) _ fun p H7 hp e7 h7 => ?_)
        rw [show min (xn : Int) (zn : Int) = ((min xn zn : Nat) : Int) by omega, show max (xn : Int) (zn : Int) = ((max xn zn : Nat) : Int) by omega] at h7
        obtain ⟨H8, hput, hL8⟩ := LW.put (x := (min xn zn, max xn zn, 1 + x)) ((hL5.step s6 r6).ex e7) h7 (by omega)
        exact ⟨d, H8, rfl, hput, _, _, _, _, hL8, hD.put (by simp only; omega), by have := len_putR l (min xn zn, max xn zn, 1 + x); omega, rfl⟩
      · rintro m σ' H2 hm ⟨l, y6, y7, y8, hL, hD, hll, rfl⟩
        refine s_rtup (raw_cons (raw_var rfl ?_))
        refine raw_cons (raw_cb ?_)
        refine lc_sortedDT (i := 4) (d := d) rfl hL.2.2.2 (ks := l.map rk) (by unfold rodsD; rw [List.map_map, List.map_map]; rfl) fun ys zs p hperm hpw hpair hp => ?_
        have pos : ∀ k ∈ ys, ∃ r ∈ l, rk r = k ∧ lenAt l k = r.2.2 ∧ valV (rodsD l) (key2 k) = some (.int r.2.2) := fun k hk => lenAt_of (hperm.mem_iff.mp hk)
        have e3 : Ex H2 (upd H2 p (.lst zs)) := Ex.new hp
        have hpp : Paired (PairP (upd H2 p (.lst zs))) (ys.map fun k => ((k.1.toNat, k.2) : Top)) zs := pr_map _ (fun k z h => by
          obtain ⟨hk, q, rfl, hq⟩ := h
          obtain ⟨r, _, rfl, _⟩ := pos k hk
          exact ⟨q, rfl, e3 _ _ hq⟩) (pr_mem hpair)
        have hcomp := els_pairsL (K := K) (H := upd H2 p (.lst zs)) (σ := [some (.ref r), some (.int 4), some (.int long), some (.int (n : Int)), some (.ref d), y5, y6, y7, y8]) (tl := tC (.ref p)) (i := 7) (j := 8) (vs := [7, 8]) ev_c upd_same hpp (by
          rw [List.length_map, hperm.length_eq, List.length_map]
          omega) (fun _ _ => rfl) (fun _ => true) (fun t => HO.tup [.int (t.1 : Nat), .int t.2, .int (lenAt l ((t.1 : Int), t.2))]) (tt := tYes) (te := tTup (tCons (tVar 7) (tCons (tVar 8) (tCons (tDGet (tVar 4) (tTup (tCons (tVar 7) (tCons (tVar 8) tNil)))) tNil)))) (fun _ _ _ _ => et_yes)
          (fun t ht H3 e4 _ => by
            obtain ⟨k, hk, rfl⟩ := List.mem_map.mp ht
            obtain ⟨r, _, rfl, hl, hv⟩ := pos k hk
            refine evN_of_U (eu_tup (ea_cons (ev_var rfl) (ea_cons (ev_var rfl) (ea_cons (ev_dgetT (k := rk r) (ev_var rfl) (eu_tup (ea_cons (ev_var rfl) (ea_cons (ev_var rfl) ea_nil)) (by show 2 ≤ 100000; omega)) (e4 _ _ (e3 _ _ hL.2.2.2)) (hv.trans ?_)) ea_nil))) (by show 3 ≤ 100000; omega))
            exact congrArg some (congrArg V.int hl.symm))
        rw [filter_all, List.map_map] at hcomp
        refine hcomp _ (Ex.refl _) _ fun pl ws H3 hpl e4 h4 hnew => ⟨pl, ws, rfl, .inl ⟨sq_of h4, fun tp htp => ⟨by show 2 ≤ sizeLine; decide, fun po hpo => ?_⟩⟩⟩
        generalize hH5 : upd (upd H3 tp (.tup ws)) po (.tup [.int (n : Int), .ref tp]) = H5
        have e5 : Ex H3 (upd H3 tp (.tup ws)) := Ex.new htp
        have e6 : Ex (upd H3 tp (.tup ws)) H5 := by
          rw [← hH5]
          exact Ex.new hpo
        have eA : Ex H2 H5 := ((e3.trans e4).trans e5).trans e6
        refine k n (ys.map (rodAt l)) _ H5 ((hL.ex eA).1) ((hL.ex eA).2.1) (netOk_of (by omega) (by omega) hD hperm hpw) ⟨po, .ref tp, rfl, ?_, tp, ws, rfl, e6 _ _ upd_same, ?_⟩
        · rw [← hH5]
          exact upd_same
        · refine pr_map _ (fun k z h => ?_) (pr_mem (pr_of_map _ hnew))
          obtain ⟨hk, q, rfl, _, hq⟩ := h
          obtain ⟨r, _, rfl, _⟩ := pos k hk
          exact ⟨q, rfl, e6 _ _ (e5 _ _ hq)⟩
end
end K8
/-! == and != of lists and tuples; new lists joined -/
namespace K8
open PySem PySem.Spec PyProof.Rows L2 Evl
theorem dpa_ints {K : PySem.W.Frag} {H : Hp} : ∀ xs : List Int, DpAll K H (xs.map V.int) (xs.map PyData.int)
  | [] => .nil
  | x :: xs => .cons (.int x) (dpa_ints xs)
def pdT (t : Top) : PyData := .tuple [.int (t.1 : Nat), .int t.2]
theorem dpa_tops {K : PySem.W.Frag} {H : Hp} : ∀ {tops : List Top} {ws : List V}, Paired (PairP H) tops ws → DpAll K H ws (tops.map pdT)
  | _, _, .nil => .nil
  | _, _, .cons ⟨p, e, h⟩ t => by
    rw [e]
    exact .cons (.tup (st_of h) (.cons (.int _) (.cons (.int _) .nil))) (dpa_tops t)
theorem dp_tops {K : PySem.W.Frag} {H : Hp} {tops : List Top} {v : V} (h : TopsP H tops v) : Dp K H v (.tuple (tops.map pdT)) := by
  obtain ⟨p, ws, rfl, hp, hw⟩ := h
  exact .tup (.inl hp) (dpa_tops hw)
theorem lay_tops : ∀ tops : List Top, PyData.canLayAll0 (tops.map pdT) = true
  | [] => rfl
  | t :: r => by
    rw [List.map_cons, PyData.canLayAll0, lay_tops r]
    rfl
theorem depth_tops : ∀ tops : List Top, PyData.depthAll (tops.map pdT) ≤ 1
  | [] => Nat.zero_le _
  | t :: r => by
    rw [List.map_cons, PyData.depthAll]
    exact Nat.max_le.mpr ⟨Nat.le_refl _, depth_tops r⟩
theorem shaped_tops (tops : List Top) : SeqAt.shaped (.tuple (tops.map pdT)) = true := by
  unfold SeqAt.shaped
  rw [Bool.and_eq_true]
  refine ⟨lay_tops tops, decide_eq_true ?_⟩
  rw [PyData.depth]
  have := depth_tops tops
  omega
theorem eqv_tops : ∀ tops us : List Top, PyData.eqvAll (tops.map pdT) (us.map pdT) = decide (tops = us)
  | [], [] => rfl
  | [], _ :: _ => rfl
  | _ :: _, [] => rfl
  | t :: r, u :: s => by
    rw [List.map_cons, List.map_cons, PyData.eqvAll, eqv_tops r s]
    have e : PyData.eqv (pdT t) (pdT u) = decide (t = u) := by
      obtain ⟨a, b⟩ := t
      obtain ⟨c, d⟩ := u
      show (((a : Int) == (c : Int)) && ((b == d) && true)) = _
      rw [Bool.eq_iff_iff]
      simp only [Bool.and_eq_true, beq_iff_eq, decide_eq_true_eq, Bool.and_true, Prod.mk.injEq]
      omega
    rw [e, Bool.eq_iff_iff]
    simp only [Bool.and_eq_true, decide_eq_true_eq, List.cons.injEq]
theorem eqv_nil (xs : List PyData) : PyData.eqvAll xs [] = decide (xs = []) := by
  cases xs with
  | nil => rfl
  | cons a r => rfl
theorem dec_map {α β : Type} (f : α → β) (xs : List α) [Decidable (xs = [])] [Decidable (xs.map f = [])] : decide (xs.map f = []) = decide (xs = []) := by
  rw [decide_eq_decide]
  exact List.map_eq_nil_iff
section
variable {X : Cx} (K : PySem.W.Frag)
theorem op_eqDK (hu : X.A.units + 64 < cLine) (h : X.K = K := by rfl) : OpR X (compareOp .Eq) (rEqD K) := h ▸ op_eqD hu
theorem op_neDK (hu : X.A.units + 64 < cLine) (h : X.K = K := by rfl) : OpR X (compareOp .NotEq) (rNeD K) := h ▸ op_neD hu
end
section
variable {K : PySem.W.Frag} {σ : L2.St} {H : Hp} {ta tb te : TE} {tt : TT} {x y : V} {p : Addr} {ns : List Int} {D : Ends} {tz : TS} {i j : Nat}
theorem el_ints_nil (ha : Ev ta σ H (.ref p)) (hp : H p = some (.lst (ns.map V.int))) : Ev (tOp (rEqD K) ta (tLst tNil)) σ H (.bl (decide (ns = []))) := by
  refine ev_opL ha (el_lst ea_nil (by show 0 ≤ 100000; omega)) fun q H1 hq e => fun H2 e2 Q k => ?_
  refine ⟨.list (ns.map PyData.int), .list [], .lst (sq_of (e2 _ _ (e _ _ hp))) (dpa_ints ns), .lst (sq_of (e2 _ _ hq)) .nil, PySem.W.ke_shaped_ints ns, by rfl, ?_⟩
  have : PyData.eqv (.list (ns.map PyData.int)) (.list []) = decide (ns = []) := by
    show PyData.eqvAll _ _ = _
    rw [eqv_nil]
    exact dec_map _ _
  rw [this]
  exact k H2 (Ex.refl _)
theorem ne_ints_nil (ha : Ev ta σ H (.ref p)) (hp : H p = some (.lst (ns.map V.int))) : Ev (tOp (rNeD K) ta (tLst tNil)) σ H (.bl (!decide (ns = []))) := by
  refine ev_opL ha (el_lst ea_nil (by show 0 ≤ 100000; omega)) fun q H1 hq e => fun H2 e2 Q k => ?_
  refine ⟨.list (ns.map PyData.int), .list [], .lst (sq_of (e2 _ _ (e _ _ hp))) (dpa_ints ns), .lst (sq_of (e2 _ _ hq)) .nil, PySem.W.ke_shaped_ints ns, by rfl, ?_⟩
  have : PyData.eqv (.list (ns.map PyData.int)) (.list []) = decide (ns = []) := by
    show PyData.eqvAll _ _ = _
    rw [eqv_nil]
    exact dec_map _ _
  rw [this]
  exact k H2 (Ex.refl _)
/-- equal tops -/
theorem ev_eqTops {t u : List Top} (hx : EvP ta σ H fun H1 v => TopsP H1 t v) (hy : Ev tb σ H y) (hu : TopsP H u y) : Ev (tOp (rEqD K) ta tb) σ H (.bl (decide (t = u))) := fun H1 e Q q =>
  hx H1 e _ fun v H2 e2 hv => hy H2 (e.trans e2) _ fun H3 e3 => ⟨_, _, dp_tops (hv.mono e3), dp_tops (hu.mono ((e.trans e2).trans e3)), shaped_tops t, shaped_tops u, by
    have : PyData.eqv (.tuple (t.map pdT)) (.tuple (u.map pdT)) = decide (t = u) := eqv_tops t u
    rw [this]
    exact q H3 (e2.trans e3)⟩
theorem el_ifL {b : Bool} {xs : List V} (h : EvT tt σ H b) (h1 : b = true → EvL ta σ H xs) (h2 : b = false → EvL tb σ H xs) : EvL (tIf tt ta tb) σ H xs := fun H1 e Q q => h H1 e _ fun H2 e2 => by
  cases b with
  | true =>
    show ta σ H2 Q
    exact h1 rfl H2 (e.trans e2) Q fun p H3 hp e3 => q p H3 (fresh_back e2 hp) (e2.trans e3)
  | false =>
    show tb σ H2 Q
    exact h2 rfl H2 (e.trans e2) Q fun p H3 hp e3 => q p H3 (fresh_back e2 hp) (e2.trans e3)
/-- a list and a new list of new objects -/
theorem s_catLs {l : Addr} {xs : List V} {os : List HO} (hv : σ[i]? = some (some (.ref l))) (hl : H l = some (.lst xs)) (h : EvLs te σ H os) (hz : xs.length + os.length ≤ 100000)
    (k : ∀ p ys H1, Ex H H1 → Paired (NewO H H1) os ys → H1 p = none → D.nx (σ.set j (some (.ref p))) (upd H1 p (.lst (xs ++ ys)))) : tAsg (tOp rCat (tVar i) te) (gName j) D σ H :=
  ⟨_, hv, h H (Ex.refl _) _ fun p ys H1 hp e h1 hn => ⟨l, p, xs, ys, rfl, rfl, e _ _ hl, h1, sz_of (by rw [← pr_len hn]; exact hz), fun q hq => k q ys H1 e hn hq⟩⟩
end
end K8
/-! _law_pick, _law_far, _law_lit, _law_rows -/
namespace K8
open PySem PySem.Spec PyProof.Rows L2 Evl
def relaxTo (D : Tab) (r : Rod) (i : Nat) : Tab := fun p v => if p < i then relax D r p v else D p v
theorem relax_set {D : Tab} {a b : Nat} {l : Int} {i : Nat} (h : a ≠ b) : setD (setD (relaxTo D (a, b, l) i) i a (min (relaxTo D (a, b, l) i i a) (relaxTo D (a, b, l) i i b + l))) i b
    (min (setD (relaxTo D (a, b, l) i) i a (min (relaxTo D (a, b, l) i i a) (relaxTo D (a, b, l) i i b + l)) i b) (setD (relaxTo D (a, b, l) i) i a (min (relaxTo D (a, b, l) i i a) (relaxTo D (a, b, l) i i b + l)) i a + l)) = relaxTo D (a, b, l) (i + 1) := by
  have e1 : relaxTo D (a, b, l) i i a = D i a := if_neg (by omega)
  have e2 : relaxTo D (a, b, l) i i b = D i b := if_neg (by omega)
  rw [e1, e2]
  have e3 : setD (relaxTo D (a, b, l) i) i a (min (D i a) (D i b + l)) i b = D i b := by
    unfold setD
    rw [if_neg (by omega)]
    exact e2
  have e4 : setD (relaxTo D (a, b, l) i) i a (min (D i a) (D i b + l)) i a = min (D i a) (D i b + l) := if_pos ⟨rfl, rfl⟩
  rw [e3, e4]
  funext p v
  by_cases hp : p = i
  · subst hp
    unfold setD relaxTo relax
    simp only [true_and, Nat.lt_irrefl, if_false, Nat.lt_succ_self, if_true]
    by_cases hb : v = b
    · rw [if_pos hb, if_neg (by omega), if_pos hb]
    · rw [if_neg hb]
      by_cases ha : v = a
      · rw [if_pos ha, if_pos ha]
      · rw [if_neg ha, if_neg ha, if_neg hb]
  · unfold setD
    rw [if_neg (by omega), if_neg (by omega)]
    unfold relaxTo
    by_cases c : p < i
    · rw [if_pos c, if_pos (by omega)]
    · rw [if_neg c, if_neg (by omega)]
theorem rows_len (n : Nat) {m : Int} (h : m ≤ 9) : (rowsL n m).length ≤ 10 ^ n := by
  induction n with
  | zero => exact Nat.le_refl _
  | succ k ih =>
    have e : (rowsL (k + 1) m).length = (rowsL k m).length * (rangeI (m + 1)).length := by
      show ((prodL k fun _ => rangeI (m + 1)).flatMap fun r => (rangeI (m + 1)).map fun x => r ++ [x]).length = _
      rw [flatMap_const_len _ (rangeI (m + 1)).length _ fun a _ => List.length_map ..]
      rfl
    rw [e, rangeI_len, Nat.pow_succ]
    exact Nat.mul_le_mul ih (by omega)
theorem rows_succ (k : Nat) (m : Int) : rowsL (k + 1) m = (rowsL k m).flatMap fun r => (rangeI (m + 1)).map fun x => r ++ [x] := rfl
theorem flatMap_take_succ {α β : Type} (f : α → List β) {l : List α} {i : Nat} {x : α} (h : l[i]? = some x) : (l.take (i + 1)).flatMap f = (l.take i).flatMap f ++ f x := by
  rw [List.take_add_one, h, List.flatMap_append]
  simp
section
variable {K : PySem.W.Frag} {σ : L2.St} {H : Hp} {ta te tx : TE}
theorem els_one {o : HO} (h : EvN te σ H o) : EvLs (tLst (tCons te tNil)) σ H [o] := fun H1 e Q q => h H1 e _ fun p H2 hp e2 h2 => ⟨by show 1 ≤ sizeLine; decide, fun l hl => q l [.ref p] _ (fresh_back e2 hl) (e2.trans (Ex.new hl)) upd_same (.cons ⟨p, rfl, hp, (Ex.new hl) _ _ h2⟩ .nil)⟩
/-- xs + (x,) -/
theorem evn_snoc {p : Addr} {xs : List V} {v : V} (ha : Ev ta σ H (.ref p)) (hp : SqT K H p xs) (hx : EvN tx σ H (.tup [v])) (hz : xs.length + 1 ≤ 100000) : EvN (tOp (rCatA K) ta tx) σ H (.tup (xs ++ [v])) := fun H1 e Q q =>
  ha H1 e _ fun H2 e2 => hx H2 (e.trans e2) _ fun t H3 ht e3 h3 => ⟨p, t, xs, [v], rfl, rfl, ex_t ((e.trans e2).trans e3) hp, st_of h3, sz_of hz, fun hxs => q t H3 (fresh_back e2 ht) (e2.trans e3) (by rw [h3, hxs]; rfl), (fun _ z => nomatch z), fun _ _ r hr => q r _ (fresh_back (e2.trans e3) hr) ((e2.trans e3).trans (Ex.new hr)) upd_same⟩
theorem evn_tup1 {v : V} (hx : Ev tx σ H v) : EvN (tTup (tCons tx tNil)) σ H (.tup [v]) := evN_of_U (eu_tup (ea_cons hx ea_nil) (by show 1 ≤ 100000; omega))
theorem new_ints {H1 H2 : Hp} {f : Nat → List Int} : ∀ {l : List Nat} {ys : List V}, Paired (NewO H1 H2) (l.map fun x => HO.tup ((f x).map V.int)) ys → Paired (IntsT H2) (l.map f) ys
  | [], _, h => by
    cases h
    exact .nil
  | x :: l, _, h => by
    rw [List.map_cons] at h
    cases h with
    | cons a t =>
      obtain ⟨q, e, _, hq⟩ := a
      exact .cons ⟨q, e, hq⟩ (new_ints t)
end
section
variable {P : Program} {w : World} {K : PySem.W.Frag} {mg : Str → Option Value} {base : Heap}
theorem sc_law_pick : FnScope ["_law_row", "_law_things"] ["_law_row", "_law_things"] (defScope (topS 33)) := ⟨rfl, rfl, rfl, by decide +kernel, rfl, by decide +kernel, by decide +kernel⟩
def spPick (K : PySem.W.Frag) : Sp := fun vs H Q _ => ∃ (r t : Addr) (ns : Addr × List Int) (xs : List Int), vs = [.ref r, .ref t] ∧ RowP K ns H r ∧ H t = some (.lst (xs.map V.int)) ∧ 0 < xs.length ∧ xs.length ≤ 100 ∧ ∀ x H', Sub H H' → RowP K ns H' r → x ∈ xs → Q (.int x) H'
theorem ok_law_pick (D : Dv K mg "_law_pick" (topS 33) ["_law_row", "_law_things"]) (G : Glob mg) (c_law_taken : Ca P w K mg base 1 "_law_taken" (spTaken K)) : Ca P w K mg base 2 "_law_pick" (spPick K) := by
  refine dv_ok D sc_law_pick (fun vs H Q E h => ?_) (fun f cdv A outer s H vs Q E hr h => ?_)
  · obtain ⟨r, t, ns, xs, rfl, _⟩ := h
    rfl
  · obtain ⟨r, t, ns, xs, rfl, hrow, ht, l0, l1, k⟩ := h
    refine ⟨_, (pss_one (ps_ret (pe_ix ix_list (pv 1) (C8.pe_c c_law_taken hr (by decide) rfl (pa_cons (pv 0) (pa_cons (pe_callB call_len_seq (by rfl) G.len_ (by decide +kernel) (pa_cons (pv 1) pa_nil)) pa_nil))) (fun _ _ => rfl)))), ?_⟩
    have hlen : Ev (tCB (fun xs H Q => ∃ p ys, xs = [V.ref p] ∧ (SqL K H p ys ∨ SqT K H p ys) ∧ Q (.int ys.length) H) (tCons (tVar 1) tNil)) [some (V.ref r), some (V.ref t)] H (.int (xs.length : Int)) := ev_is (ev_len2 (ev_var rfl) (.inl (sq_of ht))) (by rw [List.length_map])
    refine ⟨_, rfl, take_raw (i := 0) hrow rfl hlen (by omega) (by omega) fun x H1 s1 r1 x0 x1 => ?_⟩
    obtain ⟨y, rfl⟩ : ∃ y : Nat, x = (y : Int) := ⟨x.toNat, by omega⟩
    have hy : y < xs.length := by omega
    refine ⟨t, xs.map V.int, (y : Int), .int xs[y], rfl, rfl, sub_l s1 (sq_of ht), at_of ?_, k _ H1 s1 r1 (List.getElem_mem hy)⟩
    rw [List.getElem?_map, List.getElem?_eq_getElem hy]
    rfl
theorem sc_law_far : FnScope ["_law_net_here", "_law_many", "_law_found", "_law_turn", "_law_one", "_law_other", "_law_length", "_law_place"] ["_law_net_here"] (defScope (topS 34)) := ⟨rfl, rfl, rfl, by decide +kernel, rfl, by decide +kernel, by decide +kernel⟩
def spFar : Sp := fun vs H Q _ => ∃ (v : V) (n : Nat) (rods : List Rod), vs = [v] ∧ NetP H n rods v ∧ NetOk n rods ∧ ∀ H' t, Ex H H' → TabP n H' (fw n rods) t → Q t H'
theorem ok_law_far (D : Dv K mg "_law_far" (topS 34) ["_law_net_here"]) (G : Glob mg) : Ca P w K mg base 1 "_law_far" spFar := by
  refine dv_ok D sc_law_far (fun vs H Q E h => ?_) (fun f cdv A outer s H vs Q E hr h => ?_)
  · obtain ⟨v, n, rods, rfl, _⟩ := h
    rfl
  · obtain ⟨v, n, rods, rfl, ⟨p, w0, rfl, hp, r, ws, rfl, hq, hw⟩, N, k⟩ := h
    refine ⟨_, (pss_cons (ps_set (i := 1) sc_law_far.nd rfl (Or.inr rfl) (pe_ix ix_tup (pv 0) pe_int (fun _ _ => rfl)))
      (pss_cons (ps_setLc (own := [("_law_one", 4)]) (g := (gName 4)) (tt := tYes) (i := 2) rfl sc_law_far.nd rfl rfl (sw_true rfl rfl rfl (by decide +kernel)) (pi_range1 (by rfl) G.range_ (pa_cons (pv 1) pa_nil)) (blkOk_by (own := [("_law_one", 4)]) (N := ["_law_net_here", "_law_many", "_law_found", "_law_turn", "_law_one", "_law_other", "_law_length", "_law_place"]) (sc := (defScope (topS 34))) (by decide +kernel)) (fun _ _ _ _ _ => (pg_name (i := 4) sc_law_far.nd rfl (Or.inr rfl))) (fun _ _ _ _ _ => pts_nil) (fun _ _ _ _ _ => (pe_lc (own := [("_law_other", 5)]) (g := (gName 5)) (tt := tYes) rfl sc_law_far.nd (pi_range1 (by rfl) G.range_ (pa_cons (pv 1) pa_nil)) (blkOk_in (own := [("_law_other", 5)]) (N := ["_law_net_here", "_law_many", "_law_found", "_law_turn", "_law_one", "_law_other", "_law_length", "_law_place"]) (sc := (defScope (topS 34))) rfl (by decide +kernel)) (fun _ _ _ _ _ => (pg_name (i := 5) sc_law_far.nd rfl (Or.inl rfl))) (fun _ _ _ _ _ => pts_nil) (fun _ _ _ _ _ => (pe_ifExp (pt_cmpR op_eq (pv 4) (pv 5) (nomark _)) pe_int pe_int)))))
      (pss_cons (ps_for PassesOwn.never rfl (pi_range1 (by rfl) G.range_ (pa_cons (pv 1) pa_nil)) (pg_name (i := 3) sc_law_far.nd rfl (Or.inl rfl)) (pss_one (ps_for PassesOwn.never rfl (pi_tup (pe_ix ix_tup (pv 0) pe_int (fun _ _ => rfl))) (pg_tup rfl (pgs_cons (pg_name (i := 4) sc_law_far.nd rfl (Or.inl rfl)) (pgs_cons (pg_name (i := 5) sc_law_far.nd rfl (Or.inl rfl)) (pgs_cons (pg_name (i := 6) sc_law_far.nd rfl (Or.inl rfl)) pgs_nil)))) (pss_one (ps_for PassesOwn.never rfl (pi_range1 (by rfl) G.range_ (pa_cons (pv 1) pa_nil)) (pg_name (i := 7) sc_law_far.nd rfl (Or.inl rfl)) (pss_cons (ps_asg (pe_callB (call_min2 rfl) (by rfl) G.min_ (by decide +kernel) (pa_cons (pe_ix ix_list (pe_ix ix_list (pv 2) (pv 7) (fun _ _ => rfl)) (pv 4) (fun _ _ => rfl)) (pa_cons (pe_op op_add (pe_ix ix_list (pe_ix ix_list (pv 2) (pv 7) (fun _ _ => rfl)) (pv 5) (fun _ _ => rfl)) (pv 6)) pa_nil))) (pg_sub (pe_ix ix_list (pv 2) (pv 7) (fun _ _ => rfl)) (pv 4) set_list))
      (pss_one (ps_asg (pe_callB (call_min2 rfl) (by rfl) G.min_ (by decide +kernel) (pa_cons (pe_ix ix_list (pe_ix ix_list (pv 2) (pv 7) (fun _ _ => rfl)) (pv 5) (fun _ _ => rfl)) (pa_cons (pe_op op_add (pe_ix ix_list (pe_ix ix_list (pv 2) (pv 7) (fun _ _ => rfl)) (pv 4) (fun _ _ => rfl)) (pv 6)) pa_nil))) (pg_sub (pe_ix ix_list (pv 2) (pv 7) (fun _ _ => rfl)) (pv 5) set_list)))))))))
      (pss_one (ps_ret (pv 2)))))), ?_⟩
    have n1 := N.n1
    have n4 := N.n4
    refine q_asg (ev_op (ev_var rfl) ev_c (rv_ixT (st_of hp) (at_of (j := 0) rfl))) fun H0 e0 => ?_
    have hrow : ∀ (i : Nat) (x : V) H1, Ex H0 H1 → (rngV 0 ((n : Nat) : Int).toNat)[i]? = some x → EvN (tLc (iRng1 (tCons (tVar 1) tNil)) (gName 5) tYes (tIf (tTest (tOp rEq (tVar 4) (tVar 5))) (tC (.int 0)) (tC (.int 999))) [5]) [some (.ref p), some (.int n), none, none, some x, none, none, none] H1 (.lst (rowV n (b0 i))) := by
      intro i x H1 e1 hx
      obtain ⟨hi, rfl⟩ := rngV_at hx
      have h := el_lcW (H := H1) (walks_rng (n := n) (ea_cons (ev_var (σ := [some (.ref p), some (.int n), none, none, some (.int (0 + (i : Nat))), none, none, none]) (i := 1) rfl) ea_nil) (by omega)) (g := gName 5) (vs := [5]) (t := tYes) (te := tIf (tTest (tOp rEq (tVar 4) (tVar 5))) (tC (.int 0)) (tC (.int 999)))
        (by rw [rngV_len]; omega) (fun j y => [some (.ref p), some (.int n), none, none, some (.int (0 + (i : Nat))), some y, none, none]) (fun j y H2 e hy Q q => q) (fun _ _ _ => rfl) (fun _ => true) (fun j => .int (b0 i j)) (fun _ _ _ _ _ => et_yes)
        (fun j y H2 e hy _ => by
          obtain ⟨hj, rfl⟩ := rngV_at hy
          refine ev_if (et_test (ev_eqI (ev_var rfl) (ev_var rfl))) (fun hb => ?_) (fun hb => ?_)
          · have : i = j := by
              simp at hb
              omega
            rw [show b0 i j = 0 from if_pos this]
            exact ev_c
          · have : ¬ i = j := by
              simp at hb
              omega
            rw [show b0 i j = 999 from if_neg this]
            exact ev_c)
      rw [given_all, rngV_len] at h
      have e2 : ((n : Nat) : Int).toNat = n := by omega
      rw [e2] at h
      exact h
    have hall := els_lcW (H := H0) (walks_rng (n := n) (ea_cons (ev_var (σ := [some (.ref p), some (.int n), none, none, none, none, none, none]) (i := 1) rfl) ea_nil) (by omega)) (g := gName 4) (vs := [4]) (t := tYes) (te := tLc (iRng1 (tCons (tVar 1) tNil)) (gName 5) tYes (tIf (tTest (tOp rEq (tVar 4) (tVar 5))) (tC (.int 0)) (tC (.int 999))) [5])
      (by rw [rngV_len]; omega) (fun j y => [some (.ref p), some (.int n), none, none, some y, none, none, none]) (fun j y H2 e hy Q q => q) (fun _ _ _ => rfl) (fun _ => true) (fun i => .lst (rowV n (b0 i))) (fun _ _ _ _ _ => et_yes) (fun i x H1 e hx _ => hrow i x H1 e hx)
    refine q_asgLs hall fun fa ys H1 hfa e1 hf hys => ?_
    rw [List.filter_eq_self.mpr fun _ _ => rfl, rngV_len, show ((n : Nat) : Int).toNat = n by omega] at hys
    obtain ⟨rs, T⟩ := tabM_new (H0 := H) (D := b0) n1 (fun i j _ _ hij => by
      unfold b0
      rw [if_pos rfl, if_neg (Ne.symm hij)]
      decide) e0 e1 hfa hf hys
    refine q_forR1 (n := n) (ea_cons (ev_var rfl) ea_nil) (by omega) (fun m σ' H' => TabM n H H' fa rs (bfTo rods m) ∧ ∃ y3 y4 y5 y6 y7, σ' = [some (.ref p), some (.int n), some (.ref fa), y3, y4, y5, y6, y7]) (fun H3 e3 => ⟨T.mono e3, _, _, _, _, _, rfl⟩) ?_ ?_
    · rintro m σ' H' hm ⟨T2, y3, y4, y5, y6, y7, rfl⟩
      refine s_forT (a := r) (ev_op (ev_var rfl) ev_c (rv_ixT (st_of (T2.ex _ _ hp)) (at_of (j := 1) rfl))) (st_of (T2.ex _ _ hq)) (fun i σ' H' => TabM n H H' fa rs ((rods.take i).foldl relax (bfTo rods m)) ∧ ∃ y4 y5 y6 y7, σ' = [some (.ref p), some (.int n), some (.ref fa), some (.int (m : Nat)), y4, y5, y6, y7]) (fun H3 e3 => ⟨T2.mono e3, _, _, _, _, rfl⟩) (fun i σ' H' _ z => st_of (z.1.ex _ _ hq)) ?_ ?_
      · rintro i x σ' H' hx ⟨T3, y4, y5, y6, y7, rfl⟩
        obtain ⟨⟨a, b, l⟩, hrd, u, rfl, hu⟩ := pr_get hw hx
        have hro := N.rod _ (List.mem_of_getElem? hrd)
        simp only at hro hu
        refine g_three (T3.ex _ _ hu) ?_
        have ha : a < n := by omega
        have hb : b < n := hro.2.1
        refine s_forR1 (n := n) (ea_cons (ev_var rfl) ea_nil) (by omega) (fun j σ' H' => TabM n H H' fa rs (relaxTo ((rods.take i).foldl relax (bfTo rods m)) (a, b, l) j) ∧ ∃ y7, σ' = [some (.ref p), some (.int n), some (.ref fa), some (.int (m : Nat)), some (.int (a : Nat)), some (.int (b : Nat)), some (.int l), y7]) (fun H3 e3 => ⟨(T3.mono e3).congr fun i j _ _ => (if_neg (by omega)).symm, _, rfl⟩) ?_ ?_
        · rintro j σ' H' hj ⟨T4, y7, rfl⟩
          have hj' : j < n := by omega
          refine q_cell T4 hj' ha (ev_mn2 (ev_cell (ev_var rfl) (ev_var rfl) (ev_var rfl) T4.p hj' ha) (ev_add (ev_cell (ev_var rfl) (ev_var rfl) (ev_var rfl) T4.p hj' hb) (ev_var rfl))) (ev_var rfl) (ev_var rfl) (ev_var rfl) fun H5 T5 => ?_
          refine s_cell T5 hj' hb (ev_mn2 (ev_cell (ev_var rfl) (ev_var rfl) (ev_var rfl) T5.p hj' hb) (ev_add (ev_cell (ev_var rfl) (ev_var rfl) (ev_var rfl) T5.p hj' ha) (ev_var rfl))) (ev_var rfl) (ev_var rfl) (ev_var rfl) fun H6 T6 => ⟨?_, _, rfl⟩
          rw [relax_set (by omega)] at T6
          exact T6
        · rintro σ' H' ⟨T4, y7, rfl⟩
          refine ⟨T4.congr fun i' j' h1 h2 => ?_, _, _, _, _, rfl⟩
          rw [foldl_take_succ _ _ hrd]
          exact if_pos (by omega)
      · rintro σ' H' ⟨T3, y4, y5, y6, y7, rfl⟩
        refine ⟨?_, _, _, _, _, _, rfl⟩
        rw [← pr_len hw, List.take_length, ← bfTo_succ] at T3
        exact T3
    · rintro σ' H' ⟨T3, y3, y4, y5, y6, y7, rfl⟩
      rw [show ((n : Nat) : Int).toNat = n by omega] at T3
      exact ⟨.ref fa, rfl, k _ _ T3.ex (TabP.congr (fun i j hi hj => bf_is_fw N hi hj) T3.p)⟩
theorem sc_law_lit : FnScope ["_law_far_here", "_law_row", "_law_found", "_law_place", "_law_over", "_law_one"] ["_law_far_here", "_law_row"] (defScope (topS 36)) := ⟨rfl, rfl, rfl, by decide +kernel, rfl, by decide +kernel, by decide +kernel⟩
def spLit : Sp := fun vs H Q _ => ∃ (u v : V) (n : Nat) (B : Tab) (h : List Int), vs = [u, v] ∧ TabP n H B u ∧ IntsT H h v ∧ h.length = n ∧ n ≤ 100 ∧ ∀ H' p, Ex H H' → H' p = some (.lst ((lit B h).map fun p : Nat => V.int p)) → Q (.ref p) H'
theorem hv_at {h : List Int} {q : Nat} (hq : q < h.length) : (h.map V.int)[q]? = some (.int (hv h q)) := by
  rw [List.getElem?_map, List.getElem?_eq_getElem hq]
  unfold hv
  rw [List.getD_eq_getElem?_getD, List.getElem?_eq_getElem hq]
  rfl
theorem ok_law_lit (D : Dv K mg "_law_lit" (topS 36) ["_law_far_here", "_law_row"]) (G : Glob mg) : Ca P w K mg base 1 "_law_lit" spLit := by
  refine dv_ok D sc_law_lit (fun vs H Q E h => ?_) (fun f cdv A outer s H vs Q E hr h => ?_)
  · obtain ⟨u, v, n, B, h, rfl, _⟩ := h
    rfl
  · obtain ⟨u, v, n, B, h, rfl, hu, ⟨hp, rfl, hh⟩, hn, n100, k⟩ := h
    refine ⟨_, (pss_cons (ps_set (i := 2) sc_law_lit.nd rfl (Or.inl rfl) (pe_lst pa_nil))
      (pss_cons (ps_for PassesOwn.never rfl (pi_range1 (by rfl) G.range_ (pa_cons (pe_callB call_len_seq (by rfl) G.len_ (by decide +kernel) (pa_cons (pv 1) pa_nil)) pa_nil)) (pg_name (i := 3) sc_law_lit.nd rfl (Or.inr rfl)) (pss_cons (ps_setLc (own := [("_law_one", 5)]) (g := (gName 5)) (i := 4) rfl sc_law_lit.nd rfl rfl (sw_true rfl rfl rfl (by decide +kernel)) (pi_range1 (by rfl) G.range_ (pa_cons (pe_callB call_len_seq (by rfl) G.len_ (by decide +kernel) (pa_cons (pv 1) pa_nil)) pa_nil)) (blkOk_by (own := [("_law_one", 5)]) (N := ["_law_far_here", "_law_row", "_law_found", "_law_place", "_law_over", "_law_one"]) (sc := (defScope (topS 36))) (by decide +kernel)) (fun _ _ _ _ _ => (pg_name (i := 5) sc_law_lit.nd rfl (Or.inl rfl))) (fun _ _ _ _ _ => (pts_one (PW.pt (pw_and (pt_cmpR op_ne (pv 5) (pv 3) (nomark _)) (pw_and1 (pt_cmpR op_ge (pe_op op_sub (pe_ix (ix_tupK K) (pv 1) (pv 5) (fun _ _ => rfl)) (pe_ix (ix_listK K) (pe_ix (ix_listK K) (pv 0) (pv 5) (fun _ _ => rfl)) (pv 3) (fun _ _ => rfl))) (pe_ix (ix_tupK K) (pv 1) (pv 3) (fun _ _ => rfl)) (nomark _))))))) (fun _ _ _ _ _ => (pv 5)))
      (pss_one (ps_set (i := 2) sc_law_lit.nd rfl (Or.inl rfl) (pe_op op_cat (pv 2) (pe_ifExp (pt_cmpR (op_eqD hr.units) (pv 4) (pe_lst pa_nil) (nomark _)) (pe_lst (pa_cons (pv 3) pa_nil)) (pe_lst pa_nil)))))))
      (pss_one (ps_ret (pv 2))))), ?_⟩
    refine q_asgL (el_lst ea_nil (by show 0 ≤ 100000; omega)) fun fa H1 hfa e1 h1 => ?_
    have hlen : ∀ {σ : L2.St} {H' : Hp}, Ex H H' → σ[1]? = some (some (.ref hp)) → EvA (tCons (tCB (fun xs H Q => ∃ p ys, xs = [V.ref p] ∧ (SqL K H p ys ∨ SqT K H p ys) ∧ Q (.int ys.length) H) (tCons (tVar 1) tNil)) tNil) σ H' [.int (n : Nat)] := fun e hv => ea_cons (ev_is (ev_len2 (ev_var hv) (.inr (st_of (e _ _ hh)))) (by rw [List.length_map, hn])) ea_nil
    have litS : ∀ i, i < n → ((List.range (i + 1)).filter fun q => decide (over B h q = [])) = ((List.range i).filter fun q => decide (over B h q = [])) ++ (if over B h i = [] then [i] else []) := fun i _ => by
      rw [List.range_succ, List.filter_append]
      congr 1
      rw [List.filter_cons]
      by_cases c : over B h i = []
      · rw [if_pos (decide_eq_true c), if_pos c]
        rfl
      · rw [if_neg (by rw [decide_eq_false c]; decide), if_neg c]
        rfl
    refine q_forR1 (n := (n : Nat)) (hlen e1 rfl) (by omega) (fun i σ' H' => Ex H H' ∧ ∃ fb y3 y4, σ' = [some u, some (.ref hp), some (.ref fb), y3, y4, none] ∧ H' fb = some (.lst (((List.range i).filter fun q => decide (over B h q = [])).map fun p : Nat => V.int p))) (fun H2 e2 => ⟨e1.trans e2, fa, _, _, rfl, e2 _ _ h1⟩) ?_ ?_
    · rintro i σ' H2 hi ⟨e2, fb, y3, y4, rfl, h2⟩
      have hi : i < n := by omega
      have hov := el_nats (H := H2) (l := List.range n) (σ := [some u, some (.ref hp), some (.ref fb), some (.int (i : Nat)), y4, none]) (i := 5) (vs := [5]) (walks_rngN (hlen e2 rfl) (by omega)) (by rw [List.length_range]; omega) (fun _ => rfl) (fun p => decide (p ≠ i) && decide (hv h i ≤ hv h p - B p i)) (fun p => V.int (p : Nat))
        (tt := tAnd (tTest (tOp rNe (tVar 5) (tVar 3))) (tTest (tOp (rI0 fun i j => .bl (decide (j ≤ i))) (tOp (rI0 fun i j => .int (i - j)) (tOp (rIxT K) (tVar 1) (tVar 5)) (tOp (rIxL K) (tOp (rIxL K) (tVar 0) (tVar 5)) (tVar 3))) (tOp (rIxT K) (tVar 1) (tVar 3))))) (te := tVar 5)
        (fun p hp' H3 e3 => by
          have hp' : p < n := List.mem_range.mp hp'
          refine et_and (et_is (et_test (ev_neI (ev_var rfl) (ev_var rfl))) ?_) fun _ => et_test (ev_ge (ev_sub (ev_op (ev_var rfl) (ev_var rfl) (rv_ixT (st_of (e3 _ _ (e2 _ _ hh))) (at_of (hv_at (by omega))))) (ev_cell (ev_var rfl) (ev_var rfl) (ev_var rfl) (hu.mono (e2.trans e3)) hp' hi)) (ev_op (ev_var rfl) (ev_var rfl) (rv_ixT (st_of (e3 _ _ (e2 _ _ hh))) (at_of (hv_at (by omega))))))
          rw [decide_eq_decide]
          omega) (fun p _ H3 e3 _ => ev_var rfl)
      rw [show ((List.range n).filter fun p => decide (p ≠ i) && decide (hv h i ≤ hv h p - B p i)) = over B h i by unfold over; rw [hn]] at hov
      refine q_asgL hov fun oa H3 hoa e3 h3 => ?_
      rw [show ((over B h i).map fun p : Nat => V.int p) = ((over B h i).map fun p : Nat => (p : Int)).map V.int by rw [List.map_map]; rfl] at h3
      have hcat := el_cat2 (H := H3) (σ := [some u, some (.ref hp), some (.ref fb), some (.int (i : Nat)), some (.ref oa), none]) (t1 := tVar 2) (t2 := tIf (tTest (tOp (rEqD K) (tVar 4) (tLst tNil))) (tLst (tCons (tVar 3) tNil)) (tLst tNil)) (ys := (if over B h i = [] then [i] else []).map fun p : Nat => V.int p) (ev_var rfl) (e3 _ _ h2)
        (el_ifL (et_test (el_ints_nil (ev_var rfl) h3)) (fun hb => by
          have c : over B h i = [] := List.map_eq_nil_iff.mp (of_decide_eq_true hb)
          rw [if_pos c]
          exact el_lst (ea_cons (ev_var rfl) ea_nil) (by show 1 ≤ 100000; omega)) fun hb => by
          have c : ¬ over B h i = [] := fun z => (of_decide_eq_false hb) (List.map_eq_nil_iff.mpr z)
          rw [if_neg c]
          exact el_lst ea_nil (by show 0 ≤ 100000; omega)) (by
            rw [List.length_map, List.length_map]
            have a1 := List.length_filter_le (fun q => decide (over B h q = [])) (List.range i)
            rw [List.length_range] at a1
            have a2 : (if over B h i = [] then [i] else [] : List Nat).length ≤ 1 := by split <;> simp
            omega)
      refine s_asgL hcat fun fc H4 hfc e4 h4 => ⟨(e2.trans e3).trans e4, fc, _, _, rfl, ?_⟩
      rw [litS i hi, List.map_append]
      exact h4
    · rintro σ' H2 ⟨e2, fb, y3, y4, rfl, h2⟩
      rw [show ((n : Nat) : Int).toNat = n by omega] at h2
      refine ⟨.ref fb, rfl, k _ fb e2 ?_⟩
      rw [h2]
      unfold lit
      rw [hn]
theorem sc_law_rows : FnScope ["_law_many", "_law_most", "_law_rows_here", "_law_place", "_law_longer", "_law_row", "_law_height"] ["_law_many", "_law_most"] (defScope (topS 39)) := ⟨rfl, rfl, rfl, by decide +kernel, rfl, by decide +kernel, by decide +kernel⟩
def spRows : Sp := fun vs H Q _ => ∃ (n : Nat) (m : Int), vs = [.int n, .int m] ∧ n ≤ 4 ∧ 0 ≤ m ∧ m ≤ 9 ∧ ∀ H' v, Ex H H' → LstOf IntsT H' (rowsL n m) v → Q v H'
theorem ok_law_rows (D : Dv K mg "_law_rows" (topS 39) ["_law_many", "_law_most"]) (G : Glob mg) : Ca P w K mg base 1 "_law_rows" spRows := by
  refine dv_ok D sc_law_rows (fun vs H Q E h => ?_) (fun f cdv A outer s H vs Q E hr h => ?_)
  · obtain ⟨n, m, rfl, _⟩ := h
    rfl
  · obtain ⟨n, m, rfl, n4, m0, m9, k⟩ := h
    refine ⟨_, (pss_cons (ps_set (i := 2) sc_law_rows.nd rfl (Or.inl rfl) (pe_lst (pa_cons (pe_tup pa_nil) pa_nil)))
      (pss_cons (ps_for PassesOwn.never rfl (pi_range1 (by rfl) G.range_ (pa_cons (pv 0) pa_nil)) (pg_name (i := 3) sc_law_rows.nd rfl (Or.inl rfl)) (pss_cons (ps_set (i := 4) sc_law_rows.nd rfl (Or.inl rfl) (pe_lst pa_nil))
      (pss_cons (ps_for PassesOwn.never rfl (pi_list (pv 2)) (pg_name (i := 5) sc_law_rows.nd rfl (Or.inr rfl)) (pss_one (ps_set (i := 4) sc_law_rows.nd rfl (Or.inl rfl) (pe_op op_cat (pv 4) (pe_lc (own := [("_law_height", 6)]) (g := (gName 6)) (tt := tYes) rfl sc_law_rows.nd (pi_range1 (by rfl) G.range_ (pa_cons (pe_op op_add (pv 1) pe_int) pa_nil)) (blkOk_by (own := [("_law_height", 6)]) (N := ["_law_many", "_law_most", "_law_rows_here", "_law_place", "_law_longer", "_law_row", "_law_height"]) (sc := (defScope (topS 39))) (by decide +kernel)) (fun _ _ _ _ _ => (pg_name (i := 6) sc_law_rows.nd rfl (Or.inl rfl))) (fun _ _ _ _ _ => pts_nil) (fun _ _ _ _ _ => (pe_op (op_catAK K) (pv 5) (pe_tup (pa_cons (pv 6) pa_nil)))))))))
      (pss_one (ps_set (i := 2) sc_law_rows.nd rfl (Or.inl rfl) (pv 4))))))
      (pss_one (ps_ret (pv 2))))), ?_⟩
    refine q_asgLs (els_one (evN_of_U (eu_tup ea_nil (by show 0 ≤ 100000; omega)))) fun fa ys H1 hfa e1 h1 hn => ?_
    have hp1 : Paired (IntsT H1) (rowsL 0 m) ys := by
      cases hn with
      | cons a t =>
        cases t
        obtain ⟨q, e, _, hq⟩ := a
        exact .cons ⟨q, e, hq⟩ .nil
    refine q_forR1 (n := (n : Nat)) (ea_cons (ev_var rfl) ea_nil) (by omega) (fun i σ' H' => Ex H H' ∧ ∃ fb ws y3 y4 y5, σ' = [some (.int (n : Nat)), some (.int m), some (.ref fb), y3, y4, y5, none] ∧ H' fb = some (.lst ws) ∧ Paired (IntsT H') (rowsL i m) ws) (fun H2 e2 => ⟨e1.trans e2, fa, ys, _, _, _, rfl, e2 _ _ h1, pr_mono (fun _ _ => IntsT.mono e2) hp1⟩) ?_ ?_
    · rintro i σ' H2 hi ⟨e2, fb, ws, y3, y4, y5, rfl, h2, hw⟩
      have hi : i < n := by omega
      refine q_asgL (el_lst ea_nil (by show 0 ≤ 100000; omega)) fun la H3 hla e3 h3 => ?_
      have lenR : (rowsL i m).length ≤ 1000 := by
        have a1 := rows_len i m9
        have a2 : 10 ^ i ≤ 10 ^ 3 := Nat.pow_le_pow_right (by omega) (by omega)
        omega
      refine q_forLn (ev_var rfl) (sq_of (e3 _ _ h2)) (fun j σ' H' => Ex H2 H' ∧ ∃ lb vs y5, σ' = [some (.int (n : Nat)), some (.int m), some (.ref fb), some (.int (i : Nat)), some (.ref lb), y5, none] ∧ H' lb = some (.lst vs) ∧ Paired (IntsT H') (((rowsL i m).take j).flatMap fun r => (rangeI (m + 1)).map fun x => r ++ [x]) vs) (fun H4 e4 => ⟨e3.trans e4, la, [], _, rfl, e4 _ _ h3, .nil⟩) (fun j σ' H' _ z => sq_of (z.1 _ _ h2)) ?_ ?_
      · rintro j x σ' H4 hx ⟨e4, lb, vs, y5, rfl, h4, hv⟩
        obtain ⟨r, hr, q, rfl, hq⟩ := pr_get hw hx
        have hrl : r.length = i := prodL_len (List.mem_of_getElem? hr)
        have hm1 : ((m + 1).toNat : Int) = m + 1 := by omega
        have hc := els_nats (H := H4) (l := List.range (m + 1).toNat) (σ := [some (.int (n : Nat)), some (.int m), some (.ref fb), some (.int (i : Nat)), some (.ref lb), some (.ref q), none]) (i := 6) (vs := [6]) (walks_rngN (ta := tCons (tOp (rI0 fun i j => .int (i + j)) (tVar 1) (tC (.int 1))) tNil) (ea_cons (ev_is (ev_add (ev_var rfl) ev_c) (congrArg V.int hm1.symm)) ea_nil) (by omega)) (by rw [List.length_range]; omega) (fun _ => rfl) (fun _ => true) (fun x => HO.tup ((r ++ [(x : Int)]).map V.int)) (tt := tYes) (te := tOp (rCatA K) (tVar 5) (tTup (tCons (tVar 6) tNil)))
          (fun _ _ _ _ => et_yes) (fun x hx H5 e5 _ => by
            rw [List.map_append]
            exact evn_snoc (ev_var rfl) (st_of (e5 _ _ (e4 _ _ hq))) (evn_tup1 (ev_var rfl)) (by rw [List.length_map]; omega))
        rw [filter_all] at hc
        have lenV : vs.length ≤ 10000 := by
          rw [← pr_len hv]
          have a1 := rows_len (i + 1) m9
          have a2 : 10 ^ (i + 1) ≤ 10 ^ 4 := Nat.pow_le_pow_right (by omega) (by omega)
          have a3 : (((rowsL i m).take j).flatMap fun r => (rangeI (m + 1)).map fun x => r ++ [x]).length ≤ (rowsL (i + 1) m).length := by
            rw [rows_succ]
            have := List.take_append_drop j (rowsL i m)
            conv => rhs; rw [← this, List.flatMap_append, List.length_append]
            omega
          omega
        refine s_catLs (i := 4) rfl h4 hc (by rw [List.length_map, List.length_range]; omega) fun p ys H5 e5 hn hp => ⟨(e4.trans e5).trans (Ex.new hp), p, _, _, rfl, upd_same, ?_⟩
        rw [flatMap_take_succ _ hr]
        refine pr_app ?_ (pr_mono (fun _ _ => IntsT.mono (e5.trans (Ex.new hp))) hv)
        have := new_ints (f := fun x => r ++ [(x : Int)]) hn
        rw [show ((rangeI (m + 1)).map fun x => r ++ [x]) = (List.range (m + 1).toNat).map fun x : Nat => r ++ [(x : Int)] by unfold rangeI; rw [List.map_map]; rfl]
        exact pr_mono (fun _ _ => IntsT.mono (Ex.new hp)) this
      · rintro σ' H4 ⟨e4, lb, vs, y5, rfl, h4, hv⟩
        rw [← pr_len hw, List.take_length] at hv
        exact s_asg (ev_var rfl) fun H5 e5 => ⟨(e2.trans e4).trans e5, lb, vs, _, _, _, rfl, e5 _ _ h4, pr_mono (fun _ _ => IntsT.mono e5) hv⟩
    · rintro σ' H2 ⟨e2, fb, ws, y3, y4, y5, rfl, h2, hw⟩
      rw [show ((n : Nat) : Int).toNat = n by omega] at hw
      exact ⟨.ref fb, rfl, k H2 _ e2 ⟨fb, ws, rfl, h2, hw⟩⟩
end
end K8
/-! _law_heights, _law_places, _law_tops: lists drawn from the script -/
namespace K8
open PySem PySem.Spec PyProof.Rows L2 Evl
section
variable {K : PySem.W.Frag} {σ : L2.St} {H : Hp} {ta : TA} {te : TE} {tt : TT} {tu tz : TS} {D : Ends} {ns : Addr × List Int} {r : Addr} {i j : Nat} {vs : List Nat} {Q : VK} {g : TG}
def DrawW (K : PySem.W.Frag) (ns : Addr × List Int) (r : Addr) (Good : Nat → List Int → Prop) (H : Hp) (Dl : Addr) (i : Nat) (H' : Hp) : Prop := ∃ xs, Good i xs ∧ xs.length ≤ i ∧ Sub H H' ∧ RowP K ns H' r ∧ H' Dl = some (.lst (xs.map V.int))
theorem lc_draw {n : Nat} (h : EvA ta σ H [.int (n : Nat)]) (hn : n ≤ 1000) (hrow : RowP K ns H r) (hw : ∀ x, wipe ((wipe σ vs).set j (some x)) vs = wipe σ vs) (Good : Nat → List Int → Prop) (g0 : Good 0 [])
    (turn : ∀ (i : Nat) H', i < n → Sub H H' → RowP K ns H' r → ∀ (Ry : V → Hp → Prop) (Rn : Hp → Prop), (∀ x H2, Sub H' H2 → RowP K ns H2 r → (∀ xs, Good i xs → Good (i + 1) (xs ++ [x])) → Ry (.int x) H2) → (∀ H2, Sub H' H2 → RowP K ns H2 r → (∀ xs, Good i xs → Good (i + 1) xs) → Rn H2) →
      tt ((wipe σ vs).set j (some (.int (i : Int)))) H' fun b H3 => if b = true then te ((wipe σ vs).set j (some (.int (i : Int)))) H3 Ry else Rn H3)
    (k : ∀ p xs H', Sub H H' → RowP K ns H' r → H' p = some (.lst (xs.map V.int)) → Good n xs → Q (.ref p) H') : tLc (iRng1 ta) (gName j) tt te vs σ H Q :=
  h H (Ex.refl _) _ fun H1 e1 => ⟨(n : Int), rfl, by omega, by omega, fun Dl hD => by
    have hHD : H Dl = none := fresh_back e1 hD
    have new : ∀ {H' : Hp} {o : HO}, Sub H H' → Sub H (upd H' Dl o) := fun s p o' hp n => by
      rw [upd_ne fun z => by rw [z, hHD] at hp; cases hp]
      exact s p o' hp n
    have rown : ∀ {H' : Hp} {xs : List Int} {o : HO}, Sub H H' → RowP K ns H' r → H' Dl = some (.lst (xs.map V.int)) → RowP K ns (upd H' Dl o) r := fun {H' xs o} s ⟨a, m, q, h0, hr, _⟩ hDl => by
      obtain ⟨_, _, _, _, _, hs⟩ := hrow
      have c : r ≠ Dl := fun z => by
        rw [z, hDl] at hr
        exact ints_row _ _ _ _ (Option.some.inj hr)
      exact ⟨a, m, q, h0, (upd_ne c).trans hr, sub_l (new s) hs⟩
    rw [show ((n : Int)).toNat = n by omega]
    refine lc_range (lo := 0) (n := n) (DrawW K ns r Good H Dl) ⟨[], g0, Nat.le_refl _, new (Ex.sub e1), (hrow.mono e1).mono (Ex.new hD), upd_same⟩ (fun i H' hi p => ?_) fun H' p => ?_
    · have e0 : (0 : Int) + (i : Int) = (i : Int) := Int.zero_add _
      show wipe ((wipe σ vs).set j (some (.int ((0 : Int) + (i : Int))))) vs = wipe σ vs ∧ tt ((wipe σ vs).set j (some (.int ((0 : Int) + (i : Int))))) H' fun b H3 => if b = true then te ((wipe σ vs).set j (some (.int ((0 : Int) + (i : Int))))) H3 fun y H4 => ∃ acc, H4 Dl = some (.lst acc) ∧ acc.length < sizeLine ∧ DrawW K ns r Good H Dl (i + 1) (upd H4 Dl (.lst (acc ++ [y]))) else DrawW K ns r Good H Dl (i + 1) H3
      rw [e0]
      obtain ⟨xs, hg, hl, hs, hr, hx⟩ := p
      refine ⟨hw _, turn i H' (by omega) hs hr _ _ (fun x H2 s2 r2 g2 => ?_) fun H2 s2 r2 g2 => ?_⟩
      · have h2 := s2 _ _ hx ints_row
        refine ⟨xs.map V.int, h2, sz_lt (by rw [List.length_map]; omega), xs ++ [x], g2 xs hg, by rw [List.length_append]; show xs.length + 1 ≤ _; omega, new (hs.trans s2), rown (hs.trans s2) r2 h2, ?_⟩
        rw [List.map_append]
        exact upd_same
      · exact ⟨xs, g2 xs hg, by omega, hs.trans s2, r2, s2 _ _ hx ints_row⟩
    · obtain ⟨xs, hg, hl, hs, hr, hx⟩ := p
      exact k Dl xs H' hs hr hx hg⟩
theorem if_b {b : Bool} {p q : Prop} (h1 : b = true → p) (h2 : b = false → q) : if b = true then p else q := by
  cases b
  · exact h2 rfl
  · exact h1 rfl
theorem yes_raw {Qb : Bool → Hp → Prop} (h : Qb true H) : tYes σ H Qb := h
theorem raw_tup (h : ta σ H fun xs H1 => xs.length ≤ sizeLine ∧ ∀ p, H1 p = none → Q (.ref p) (upd H1 p (.tup xs))) : tTup ta σ H Q := h
theorem s_ret_raw (h : te σ H D.rt) : tRet te D σ H := h
theorem q_asg_raw (h : te σ H fun v H1 => tz D (σ.set i (some v)) H1) : tSeq (tAsg te (gName i)) tz D σ H := h
theorem call_raw {sp : Sp} {us dvs : List V} {E : XK} (ha : EvA ta σ H us) (h : ∀ H1, Ex H H1 → sp (us ++ dvs) H1 Q E) : tCall sp dvs E ta σ H Q := ha H (Ex.refl _) _ h
theorem q_when_take {E : XK} {many : Int} (hrow : RowP K ns H r) (hv : σ[i]? = some (some (.ref r))) (ha : Ev te σ H (.int many)) (h0 : 0 < many) (h1 : many ≤ 1000000) (k1 : ∀ H1, Sub H H1 → RowP K ns H1 r → tu { D with nx := tz D } σ H1) (k2 : ∀ H1, Sub H H1 → RowP K ns H1 r → tz D σ H1) :
    tSeq (tIfS (tTest (tOp rEq (tCall (spTaken K) [] E (tCons (tVar i) (tCons te tNil))) (tC (.int 0)))) tu tNext) tz D σ H :=
  take_raw hrow hv ha h0 h1 fun x H1 s1 r1 _ _ => ⟨rfl, decide (V.int x = V.int 0), rfl, if_b (fun _ => k1 H1 s1 r1) fun _ => k2 H1 s1 r1⟩
theorem lc_callL {sp : Sp} {us : List V} {E : XK} (ha : EvA ta σ H us) (h : ∀ H1, Ex H H1 → sp (us ++ []) H1 (fun v H1 => tLc (iList K (tC v)) g tt te vs σ H1 Q) E) : tLc (iList K (tCall sp [] E ta)) g tt te vs σ H Q := ha H (Ex.refl _) _ h
theorem lc_callT {sp : Sp} {us : List V} {E : XK} (ha : EvA ta σ H us) (h : ∀ H1, Ex H H1 → sp (us ++ []) H1 (fun v H1 => tLc (iTup K (tC v)) g tt te vs σ H1 Q) E) : tLc (iTup K (tCall sp [] E ta)) g tt te vs σ H Q := ha H (Ex.refl _) _ h
end
section
variable {P : Program} {w : World} {K : PySem.W.Frag} {mg : Str → Option Value} {base : Heap}
theorem sc_law_heights : FnScope ["_law_row", "_law_many", "_law_most", "_law_place"] ["_law_row", "_law_many", "_law_most"] (defScope (topS 35)) := ⟨rfl, rfl, rfl, by decide +kernel, rfl, by decide +kernel, by decide +kernel⟩
def spHeights (K : PySem.W.Frag) : Sp := fun vs H Q _ => ∃ (r : Addr) (ns : Addr × List Int) (n : Nat) (m : Int), vs = [.ref r, .int n, .int m] ∧ RowP K ns H r ∧ n ≤ 4 ∧ 0 ≤ m ∧ m ≤ 9 ∧ ∀ H' v hs, Sub H H' → RowP K ns H' r → IntsT H' hs v → hs.length = n → (∀ x ∈ hs, 0 ≤ x ∧ x ≤ m) → Q v H'
theorem ok_law_heights (D : Dv K mg "_law_heights" (topS 35) ["_law_row", "_law_many", "_law_most"]) (G : Glob mg) (c_law_taken : Ca P w K mg base 1 "_law_taken" (spTaken K)) : Ca P w K mg base 2 "_law_heights" (spHeights K) := by
  refine dv_ok D sc_law_heights (fun vs H Q E h => ?_) (fun f cdv A outer s H vs Q E hr h => ?_)
  · obtain ⟨r, ns, n, m, rfl, _⟩ := h
    rfl
  · obtain ⟨r, ns, n, m, rfl, hrow, n4, m0, m9, k⟩ := h
    refine ⟨_, (pss_one (ps_ret (pe_callTy call_tuple_of (by rfl) G.tuple_ (by decide +kernel) (pa_cons (pe_lc (own := [("_law_place", 3)]) (g := (gName 3)) (tt := tYes) rfl sc_law_heights.nd (pi_range1 (by rfl) G.range_ (pa_cons (pv 1) pa_nil)) (blkOk_by (own := [("_law_place", 3)]) (N := ["_law_row", "_law_many", "_law_most", "_law_place"]) (sc := (defScope (topS 35))) (by decide +kernel)) (fun _ _ _ _ _ => (pg_name (i := 3) sc_law_heights.nd rfl (Or.inl rfl))) (fun _ _ _ _ _ => pts_nil) (fun _ _ _ _ _ => (C8.pe_c c_law_taken hr (by decide) rfl (pa_cons (pv 0) (pa_cons (pe_op op_add (pv 2) pe_int) pa_nil))))) pa_nil)))), ?_⟩
    refine s_ret_raw (raw_cb ?_)
    refine lc_draw (n := n) (ea_cons (ev_var rfl) ea_nil) (by omega) hrow (fun _ => rfl) (fun i xs => xs.length = i ∧ ∀ x ∈ xs, 0 ≤ x ∧ x ≤ m) ⟨rfl, by simp⟩ (fun i H' hi s1 r1 Ry Rn ky kn => ?_) fun p xs H' s1 r1 hp hg => ?_
    · refine yes_raw (if_b (fun _ => ?_) fun z => nomatch z)
      refine take_raw r1 rfl (ev_add (ev_var rfl) ev_c) (by omega) (by omega) fun x H2 s2 r2 x0 x1 => ky x H2 s2 r2 fun xs hg => ⟨by rw [List.length_append, hg.1]; rfl, fun y hy => ?_⟩
      rcases List.mem_append.mp hy with hy | hy
      · exact hg.2 y hy
      · rw [List.mem_singleton.mp hy]
        omega
    · exact ⟨p, xs.map V.int, rfl, .inl ⟨sq_of hp, fun l hl => k _ _ xs (s1.trans (Ex.sub (Ex.new hl))) (r1.mono (Ex.new hl)) ⟨l, rfl, upd_same⟩ hg.1 hg.2⟩⟩
theorem sc_law_places : FnScope ["_law_row", "_law_many", "_law_found", "_law_place"] ["_law_row", "_law_many"] (defScope (topS 37)) := ⟨rfl, rfl, rfl, by decide +kernel, rfl, by decide +kernel, by decide +kernel⟩
def NatsT (H : Hp) (l : List Nat) (v : V) : Prop := ∃ p, v = .ref p ∧ H p = some (.tup (l.map fun p : Nat => V.int p))
def spPlaces (K : PySem.W.Frag) : Sp := fun vs H Q _ => ∃ (r : Addr) (ns : Addr × List Int) (n : Nat), vs = [.ref r, .int n] ∧ RowP K ns H r ∧ 1 ≤ n ∧ n ≤ 4 ∧ ∀ H' v ps, Sub H H' → RowP K ns H' r → NatsT H' ps v → ps ≠ [] → ps.Pairwise (· < ·) → (∀ p ∈ ps, p < n) → Q v H'
theorem ok_law_places (D : Dv K mg "_law_places" (topS 37) ["_law_row", "_law_many"]) (G : Glob mg) (c_law_taken : Ca P w K mg base 1 "_law_taken" (spTaken K)) : Ca P w K mg base 2 "_law_places" (spPlaces K) := by
  refine dv_ok D sc_law_places (fun vs H Q E h => ?_) (fun f cdv A outer s H vs Q E hr h => ?_)
  · obtain ⟨r, ns, n, rfl, _⟩ := h
    rfl
  · obtain ⟨r, ns, n, rfl, hrow, n1, n4, k⟩ := h
    refine ⟨_, (pss_cons (ps_setLc (own := [("_law_place", 3)]) (g := (gName 3)) (i := 2) rfl sc_law_places.nd rfl rfl (sw_true rfl rfl rfl (by decide +kernel)) (pi_range1 (by rfl) G.range_ (pa_cons (pv 1) pa_nil)) (blkOk_by (own := [("_law_place", 3)]) (N := ["_law_row", "_law_many", "_law_found", "_law_place"]) (sc := (defScope (topS 37))) (by decide +kernel)) (fun _ _ _ _ _ => (pg_name (i := 3) sc_law_places.nd rfl (Or.inl rfl))) (fun _ _ _ _ _ => (pts_one (pt_cmpR op_eq (C8.pe_c c_law_taken hr (by decide) rfl (pa_cons (pv 0) (pa_cons pe_int pa_nil))) pe_int (nomark _)))) (fun _ _ _ _ _ => (pv 3)))
      (pss_one (ps_ret (pe_ifExp (pt_cmpR (op_neD hr.units) (pv 2) (pe_lst pa_nil) (nomark _)) (pe_callTy call_tuple_of (by rfl) G.tuple_ (by decide +kernel) (pa_cons (pv 2) pa_nil)) (pe_tup (pa_cons (C8.pe_c c_law_taken hr (by decide) rfl (pa_cons (pv 0) (pa_cons (pv 1) pa_nil))) pa_nil)))))), ?_⟩
    refine q_asg_raw ?_
    refine lc_draw (n := n) (ea_cons (ev_var rfl) ea_nil) (by omega) hrow (fun _ => rfl) (fun i xs => xs.Pairwise (· < ·) ∧ ∀ x ∈ xs, 0 ≤ x ∧ x < (i : Int)) ⟨.nil, by simp⟩ (fun i H' hi s1 r1 Ry Rn ky kn => ?_) fun p xs H' s1 r1 hp hg => ?_
    · refine take_raw r1 rfl ev_c (by omega) (by omega) fun x H2 s2 r2 x0 x1 => ⟨rfl, decide (V.int x = V.int 0), rfl, ?_⟩
      refine if_b (fun _ => ?_) fun _ => ?_
      · refine raw_var rfl (ky _ H2 s2 r2 fun xs hg => ⟨?_, fun y hy => ?_⟩)
        · rw [List.pairwise_append]
          exact ⟨hg.1, List.pairwise_singleton _ _, fun a ha b hb => by
            rw [List.mem_singleton.mp hb]
            exact (hg.2 a ha).2⟩
        · rcases List.mem_append.mp hy with hy | hy
          · have := hg.2 y hy
            omega
          · rw [List.mem_singleton.mp hy]
            omega
      · exact kn H2 s2 r2 fun xs hg => ⟨hg.1, fun y hy => by have := hg.2 y hy; omega⟩
    · refine s_ret_raw ?_
      refine (et_test (ne_ints_nil (K := K) (σ := [some (.ref r), some (.int (n : Nat)), some (.ref p), none]) (ta := tVar 2) (ev_var rfl) hp)) H' (Ex.refl _) _ fun H2 e2 => ?_
      have c' : (!decide (xs = [])) = false → xs = [] := fun z => by
        cases h : decide (xs = []) with
        | true => exact of_decide_eq_true h
        | false =>
          rw [h] at z
          cases z
      have c'' : (!decide (xs = [])) = true → xs ≠ [] := fun z h => by
        rw [decide_eq_true h] at z
        cases z
      refine if_b (fun z => ?_) fun z => ?_
      case refine_2 =>
        have c := c' z
        refine raw_tup (raw_cons (take_raw (r1.mono e2) rfl (ev_var rfl) (by omega) (by omega) fun x H3 s3 r3 x0 x1 => ⟨by show 1 ≤ sizeLine; decide, fun l hl => ?_⟩))
        obtain ⟨y, rfl⟩ : ∃ y : Nat, x = (y : Int) := ⟨x.toNat, by omega⟩
        exact k _ _ [y] (((s1.trans (Ex.sub e2)).trans s3).trans (Ex.sub (Ex.new hl))) (r3.mono (Ex.new hl)) ⟨l, rfl, upd_same⟩ (by simp) (List.pairwise_singleton _ _) (fun p hp => by rw [List.mem_singleton.mp hp]; omega)
      case refine_1 =>
        have c := c'' z
        refine raw_cb (raw_var rfl ⟨p, xs.map V.int, rfl, .inl ⟨sq_of (e2 _ _ hp), fun l hl => ?_⟩⟩)
        refine k _ _ (xs.map Int.toNat) ((s1.trans (Ex.sub e2)).trans (Ex.sub (Ex.new hl))) ((r1.mono e2).mono (Ex.new hl)) ⟨l, rfl, ?_⟩ (fun z => c (List.map_eq_nil_iff.mp z)) (List.pairwise_map.mpr (List.Pairwise.imp_of_mem (fun {a b} ha hb h => ?_) hg.1)) (fun p hp => ?_)
        · rw [upd_same, List.map_map]
          refine congrArg some (congrArg HO.tup (List.map_congr_left fun x hx => ?_))
          have := (hg.2 x hx).1
          show V.int x = V.int ((x.toNat : Nat) : Int)
          rw [Int.toNat_of_nonneg this]
        · have h1 := (hg.2 a ha).1
          have h2 := (hg.2 b hb).1
          omega
        · obtain ⟨x, hx, rfl⟩ := List.mem_map.mp hp
          have := hg.2 x hx
          omega
theorem sc_law_tops : FnScope ["_law_row", "_law_net_here", "_law_most", "_law_far_here", "_law_heights_here", "_law_place"] ["_law_row", "_law_net_here", "_law_most"] (defScope (topS 38)) := ⟨rfl, rfl, rfl, by decide +kernel, rfl, by decide +kernel, by decide +kernel⟩
def spLawTops (K : PySem.W.Frag) : Sp := fun vs H Q _ => ∃ (r : Addr) (ns : Addr × List Int) (v : V) (n : Nat) (rods : List Rod) (m : Int), vs = [.ref r, v, .int m] ∧ RowP K ns H r ∧ NetP H n rods v ∧ NetOk n rods ∧ 0 ≤ m ∧ m ≤ 9 ∧ ∀ H' t tops, Sub H H' → RowP K ns H' r → TopsOk n m tops → TopsP H' tops t → Known H' t → Q t H'
theorem ok_law_tops (D : Dv K mg "_law_tops" (topS 38) ["_law_row", "_law_net_here", "_law_most"]) (G : Glob mg) (c_law_taken : Ca P w K mg base 1 "_law_taken" (spTaken K)) (c_law_far : Ca P w K mg base 1 "_law_far" spFar) (c_law_heights : Ca P w K mg base 2 "_law_heights" (spHeights K)) (c_law_places : Ca P w K mg base 2 "_law_places" (spPlaces K)) (c_law_lit : Ca P w K mg base 1 "_law_lit" spLit) : Ca P w K mg base 3 "_law_tops" (spLawTops K) := by
  refine dv_ok D sc_law_tops (fun vs H Q E h => ?_) (fun f cdv A outer s H vs Q E hr h => ?_)
  · obtain ⟨r, ns, v, n, rods, m, rfl, _⟩ := h
    rfl
  · obtain ⟨r, ns, v, n, rods, m, rfl, hrow, hnet, N, m0, m9, k⟩ := h
    refine ⟨_, (pss_cons (ps_asg (pe_tup (pa_cons (C8.pe_c c_law_far hr (by decide) rfl (pa_cons (pv 1) pa_nil)) (pa_cons (C8.pe_c c_law_heights hr (by decide) rfl (pa_cons (pv 0) (pa_cons (pe_ix ix_tup (pv 1) pe_int (fun _ _ => rfl)) (pa_cons (pv 2) pa_nil)))) pa_nil))) (pg_tup rfl (pgs_cons (pg_name (i := 3) sc_law_tops.nd rfl (Or.inl rfl)) (pgs_cons (pg_name (i := 4) sc_law_tops.nd rfl (Or.inr rfl)) pgs_nil))))
      (pss_cons (ps_if (pt_cmpR op_eq (C8.pe_c c_law_taken hr (by decide) rfl (pa_cons (pv 0) (pa_cons pe_int pa_nil))) pe_int (nomark _)) (pss_one (ps_ret (pe_callTy call_tupleK (by rfl) G.tuple_ (by decide +kernel) (pa_cons (pe_lc (own := [("_law_place", 5)]) (g := (gName 5)) (tt := tYes) rfl sc_law_tops.nd (pi_list (C8.pe_c c_law_lit hr (by decide) rfl (pa_cons (pv 3) (pa_cons (pv 4) pa_nil)))) (blkOk_by (own := [("_law_place", 5)]) (N := ["_law_row", "_law_net_here", "_law_most", "_law_far_here", "_law_heights_here", "_law_place"]) (sc := (defScope (topS 38))) (by decide +kernel)) (fun _ _ _ _ _ => (pg_name (i := 5) sc_law_tops.nd rfl (Or.inl rfl))) (fun _ _ _ _ _ => pts_nil) (fun _ _ _ _ _ => (pe_tup (pa_cons (pv 5) (pa_cons (pe_ix (ix_tupK K) (pv 4) (pv 5) (fun _ _ => rfl)) pa_nil))))) pa_nil)))) pss_nil)
      (pss_one (ps_ret (pe_callTy call_tupleK (by rfl) G.tuple_ (by decide +kernel) (pa_cons (pe_lc (own := [("_law_place", 5)]) (g := (gName 5)) (tt := tYes) rfl sc_law_tops.nd (pi_tup (C8.pe_c c_law_places hr (by decide) rfl (pa_cons (pv 0) (pa_cons (pe_ix ix_tup (pv 1) pe_int (fun _ _ => rfl)) pa_nil)))) (blkOk_by (own := [("_law_place", 5)]) (N := ["_law_row", "_law_net_here", "_law_most", "_law_far_here", "_law_heights_here", "_law_place"]) (sc := (defScope (topS 38))) (by decide +kernel)) (fun _ _ _ _ _ => (pg_name (i := 5) sc_law_tops.nd rfl (Or.inl rfl))) (fun _ _ _ _ _ => pts_nil) (fun _ _ _ _ _ => (pe_tup (pa_cons (pv 5) (pa_cons (pe_ix (ix_tupK K) (pv 4) (pv 5) (fun _ _ => rfl)) pa_nil))))) pa_nil)))))), ?_⟩
    have n1 := N.n1
    have n4 := N.n4
    have M := fw_metric N
    obtain ⟨pn, w0, rfl, hn0, htup⟩ := id hnet
    have many : ∀ {σ : L2.St} {H' : Hp}, Sub H H' → σ[1]? = some (some (.ref pn)) → Ev (tOp (rIxT K) (tVar 1) (tC (.int 0))) σ H' (.int (n : Nat)) := fun e hv => ev_op (ev_var hv) ev_c (rv_ixT (sub_t e (st_of hn0)) (at_of (j := 0) rfl))
    refine q_tup (raw_cons (call_raw (ea_cons (ev_var rfl) ea_nil) fun H1 e1 => ⟨.ref pn, n, rods, rfl, hnet.mono e1, N, fun H2 u e2 hu => ?_⟩))
    have e12 := e1.trans e2
    refine raw_cons (call_raw (ea_cons (ev_var rfl) (ea_cons (many (Ex.sub e12) rfl) (ea_cons (ev_var rfl) ea_nil))) fun H3 e3 => ⟨r, ns, n, m, rfl, hrow.mono (e12.trans e3), n4, m0, m9, fun H4 hw hs s4 r4 hh hl hb => ⟨by show 2 ≤ sizeLine; decide, fun pt hpt => ?_⟩⟩)
    refine g_two upd_same ?_
    generalize hH5 : upd H4 pt (.tup [u, hw]) = H5
    have e5 : Ex H4 H5 := by rw [← hH5]; exact Ex.new hpt
    have s25 : Sub H2 H5 := ((Ex.sub e3).trans s4).trans (Ex.sub e5)
    have s5 : Sub H H5 := (Ex.sub e12).trans s25
    have r5 := r4.mono e5
    have u5 := hu.sub s25
    have hh5 := hh.mono e5
    have hbv : ∀ p, p < n → 0 ≤ hv hs p ∧ hv hs p ≤ m := fun p hp => by
      have hp' : p < hs.length := by omega
      have e : hv hs p = hs[p] := by
        unfold hv
        rw [List.getD_eq_getElem?_getD, List.getElem?_eq_getElem hp']
        rfl
      rw [e]
      exact hb _ (List.getElem_mem hp')
    -- the tops at some places
    have fin : ∀ (H6 : Hp) (ps : List Nat) (tl : TI), Sub H5 H6 → RowP K ns H6 r → (∀ p ∈ ps, p < n) → ps.length ≤ 40000 → TopsOk n m (ps.map fun p => (p, hv hs p)) → Walks tl [some (.ref r), some (.ref pn), some (.int m), some u, some hw, none] H6 (ps.map fun p : Nat => V.int p) →
        tLc tl (gName 5) tYes (tTup (tCons (tVar 5) (tCons (tOp (rIxT K) (tVar 4) (tVar 5)) tNil))) [5] [some (.ref r), some (.ref pn), some (.int m), some u, some hw, none] H6 (fun x H7 => ∃ p ys, [x] = [V.ref p] ∧ SqL K H7 p ys ∧ ∀ l o, H7 l = none → o.dict = none → Q (.ref l) (upd H7 l (.frz o (.tup ys)))) := by
      intro H6 ps tl s6 r6 hlt hz hok hW
      obtain ⟨q, rfl, hq⟩ := hh5.sub s6
      have hcomp := els_nats (H := H6) (l := ps) (σ := [some (.ref r), some (.ref pn), some (.int m), some u, some (.ref q), none]) (i := 5) (vs := [5]) hW hz (fun _ => rfl) (fun _ => true) (fun p => HO.tup [.int (p : Nat), .int (hv hs p)]) (tt := tYes) (te := tTup (tCons (tVar 5) (tCons (tOp (rIxT K) (tVar 4) (tVar 5)) tNil))) (fun _ _ _ _ => et_yes)
        (fun p hp H7 e7 _ => evN_of_U (eu_tup (ea_cons (ev_var rfl) (ea_cons (ev_op (ev_var rfl) (ev_var rfl) (rv_ixT (st_of (e7 _ _ hq)) (at_of (hv_at (by have := hlt p hp; omega))))) ea_nil)) (by show 2 ≤ 100000; omega)))
      rw [filter_all] at hcomp
      refine hcomp H6 (Ex.refl _) _ fun p ys H7 hp e7 h7 hnew => ⟨p, ys, rfl, sq_of h7, fun l o hl ho => ?_⟩
      have e8 : Ex H7 (upd H7 l (.frz o (.tup ys))) := Ex.new hl
      have hnew' : Paired (NewO H6 H7) ((ps.map fun p => (p, hv hs p)).map fun t : Top => HO.tup [.int (t.1 : Nat), .int t.2]) ys := by
        rw [List.map_map]
        exact hnew
      exact k _ _ _ ((s5.trans s6).trans (Ex.sub (e7.trans e8))) (r6.mono (e7.trans e8)) hok ⟨l, ys, rfl, .inr ⟨o, upd_same⟩, pr_mono (fun _ _ => PairP.mono e8) (new_pairs hnew')⟩ ⟨l, o, ys, rfl, upd_same, ho⟩
    refine q_when_take r5 rfl ev_c (by omega) (by omega) (fun H6 s6 r6 => ?_) fun H6 s6 r6 => ?_
    · refine s_ret_raw (raw_cb (lc_callL (ea_cons (ev_var rfl) (ea_cons (ev_var rfl) ea_nil)) fun H7 e7 => ⟨u, hw, n, fw n rods, hs, rfl, (u5.sub s6).mono e7, (hh5.sub s6).mono e7, hl, by omega, fun H8 p e8 hp => ?_⟩))
      have e78 := e7.trans e8
      refine fin H8 (lit (fw n rods) hs) _ (s6.trans (Ex.sub e78)) (r6.mono e78) (fun p hp => by have := (mem_lit.mp hp).1; omega) ?_ (topsOf_ok M hl n1 hbv) (walks_list ev_c (sq_of hp))
      have a := List.length_filter_le (fun q => decide (over (fw n rods) hs q = [])) (List.range hs.length)
      rw [List.length_range] at a
      unfold lit
      omega
    · refine s_ret_raw (raw_cb (lc_callT (ea_cons (ev_var rfl) (ea_cons (many (s5.trans s6) rfl) ea_nil)) fun H7 e7 => ⟨r, ns, n, rfl, r6.mono e7, n1, n4, fun H8 v ps s8 r8 hps hne hasc hlt => ?_⟩))
      obtain ⟨p, rfl, hp⟩ := hps
      refine fin H8 ps _ ((s6.trans (Ex.sub e7)).trans s8) r8 hlt ?_ ⟨fun z => hne (List.map_eq_nil_iff.mp z), List.pairwise_map.mpr hasc, fun t ht => ?_⟩ (walks_tup ev_c (st_of hp))
      · have e := rise_filter hasc hlt
        have a := List.length_filter_le (fun x => decide (x ∈ ps)) (List.range n)
        rw [e, List.length_range] at a
        omega
      · obtain ⟨p, hp, rfl⟩ := List.mem_map.mp ht
        exact ⟨hlt p hp, hbv p (hlt p hp)⟩
end
end K8
/-! _law_alike: True of like data -/
namespace K8
open PySem PySem.Spec PyProof.Rows L2 Evl
/-- like data at most n tuples deep -/
def Alk (H : Hp) : Nat → V → V → Prop
  | 0, x, y => (x = .non ∧ y = .non) ∨ ∃ i, x = .int i ∧ y = .int i
  | n + 1, x, y => ((x = .non ∧ y = .non) ∨ ∃ i, x = .int i ∧ y = .int i) ∨ ∃ a b xs ys, x = .ref a ∧ y = .ref b ∧ Rd H a (.tup xs) ∧ Rd H b (.tup ys) ∧ xs.length ≤ 100 ∧ Paired (Alk H n) xs ys
theorem Alk.mono {H H' : Hp} (e : Ex H H') : ∀ {n : Nat} {x y : V}, Alk H n x y → Alk H' n x y
  | 0, _, _, h => h
  | n + 1, _, _, h => by
    rcases h with h | ⟨a, b, xs, ys, h1, h2, h3, h4, h5, h6⟩
    · exact .inl h
    · exact .inr ⟨a, b, xs, ys, h1, h2, ex_rd e h3, ex_rd e h4, h5, pr_mono (fun _ _ => Alk.mono e) h6⟩
theorem Alk.flat {H : Hp} {x y : V} (h : (x = .non ∧ y = .non) ∨ ∃ i, x = .int i ∧ y = .int i) : ∀ n, Alk H n x y
  | 0 => h
  | n + 1 => .inl h
section
variable {K : PySem.W.Frag} {σ : L2.St} {H : Hp} {tx tc : TE} {x : V}
theorem kit_tl {t : String} {b1 b2 : Bool} (h1 : kitB t "tuple" = some b1) (h2 : kitB t "list" = some b2) : PySem.W.kitAny K (.type t) [.type "tuple", .type "list"] = some (b1 || b2) := by
  cases b1 with
  | true => exact kitAny_cons (kit_ty h1) (fun z => nomatch z) fun _ => rfl
  | false => exact kitAny_cons (kit_ty h1) (fun _ => kitAny_cons (b := b2) (kit_ty h2) (fun z => by rw [z]; rfl) fun z => by rw [z]; rfl) fun z => nomatch z
theorem ev_isiT {t : String} {b1 b2 : Bool} (hx : Ev tx σ H x) (hT : ∀ H1, Ex H H1 → TyX K H1 x (.type t)) (h1 : kitB t "tuple" = some b1) (h2 : kitB t "list" = some b2) : Ev (tCB (rIsiT K) (tCons tx (tCons (tTup (tCons (tC (.ty "tuple")) (tCons (tC (.ty "list")) tNil))) tNil))) σ H (.bl (b1 || b2)) := fun H1 e Q q =>
  hx H1 e _ fun H2 e2 => (eu_tup (ea_cons ev_c (ea_cons ev_c ea_nil)) (by show 2 ≤ 100000; omega)) H2 (Ex.refl _) _ fun p H3 hp e3 h3 =>
    ⟨x, p, [.ty "tuple", .ty "list"], .type t, [.type "tuple", .type "list"], b1 || b2, rfl, h3, .cons (.ty "tuple") (.cons (.ty "list") .nil), hT H3 ((e.trans e2).trans e3), kit_tl h1 h2, q H3 (e2.trans e3)⟩
theorem ev_isi {t c : String} {b : Bool} (hx : Ev tx σ H x) (hT : ∀ H1, Ex H H1 → TyX K H1 x (.type t)) (h : kitB t c = some b) : Ev (tCB (rIsi K) (tCons tx (tCons (tC (.ty c)) tNil))) σ H (.bl b) := fun H1 e Q q =>
  hx H1 e _ fun H2 e2 => ⟨x, .ty c, .type t, .type c, b, rfl, .ty c, hT H2 (e.trans e2), kit_ty h, q H2 e2⟩
end
section
variable {P : Program} {w : World} {K : PySem.W.Frag} {mg : Str → Option Value} {base : Heap}
theorem sc_law_alike : FnScope ["_law_found", "_law_due", "_law_k"] ["_law_found", "_law_due"] (defScope (topS 40)) := ⟨rfl, rfl, rfl, by decide +kernel, rfl, by decide +kernel, by decide +kernel⟩
def spAlike (n : Nat) : Sp := fun vs H Q _ => ∃ x y, vs = [x, y] ∧ Alk H n x y ∧ ∀ H', Ex H H' → Q (.bl true) H'
def spNo : Sp := fun _ _ _ _ => False
/-- the body, where the inner call has some promise -/
theorem alike_body (D : Dv K mg "_law_alike" (topS 40) ["_law_found", "_law_due"]) (G : Glob mg) {k : Nat} {sp : Sp} (c_law_alike : Ca P w K mg base k "_law_alike" sp) (n : Nat) (hin : ∀ m, n = m + 1 → sp = spAlike m) : Ca P w K mg base (k + 1) "_law_alike" (spAlike n) := by
  refine dv_ok D sc_law_alike (fun vs H Q E h => ?_) (fun f cdv A outer s H vs Q E hr h => ?_)
  · obtain ⟨x, y, rfl, _⟩ := h
    rfl
  · obtain ⟨x, y, rfl, ha, k⟩ := h
    refine ⟨_, (pss_cons (ps_if (pt_val (pe_callB call_isiT (by rfl) G.isinstance_ (by decide +kernel) (pa_cons (pv 1) (pa_cons (pe_tup (pa_cons (pe_bltn (v := .ty "tuple") (by rfl) G.tuple_ (by decide +kernel) rfl) (pa_cons (pe_bltn (v := .ty "list") (by rfl) G.list_ (by decide +kernel) rfl) pa_nil))) pa_nil)))) (pss_cons (ps_if (PW.pt (pw_or (pt_not (pt_val (pe_callB call_isiT (by rfl) G.isinstance_ (by decide +kernel) (pa_cons (pv 0) (pa_cons (pe_tup (pa_cons (pe_bltn (v := .ty "tuple") (by rfl) G.tuple_ (by decide +kernel) rfl) (pa_cons (pe_bltn (v := .ty "list") (by rfl) G.list_ (by decide +kernel) rfl) pa_nil))) pa_nil))))) (pw_or1 (pt_cmpR op_ne (pe_callB call_isi (by rfl) G.isinstance_ (by decide +kernel) (pa_cons (pv 0) (pa_cons (pe_bltn (v := .ty "list") (by rfl) G.list_ (by decide +kernel) rfl) pa_nil))) (pe_callB call_isi (by rfl) G.isinstance_ (by decide +kernel) (pa_cons (pv 1) (pa_cons (pe_bltn (v := .ty "list") (by rfl) G.list_ (by decide +kernel) rfl) pa_nil))) (nomark _))))) (pss_one (ps_ret pe_bl)) pss_nil)
      (pss_cons (ps_if (pt_cmpR op_ne (pe_callB call_len_seq (by rfl) G.len_ (by decide +kernel) (pa_cons (pv 0) pa_nil)) (pe_callB call_len_seq (by rfl) G.len_ (by decide +kernel) (pa_cons (pv 1) pa_nil)) (nomark _)) (pss_one (ps_ret pe_bl)) pss_nil)
      (pss_one (ps_ret (pe_cmpR (op_eqD hr.units) (pe_lc (own := [("_law_k", 2)]) (g := (gName 2)) rfl sc_law_alike.nd (pi_range1 (by rfl) G.range_ (pa_cons (pe_callB call_len_seq (by rfl) G.len_ (by decide +kernel) (pa_cons (pv 1) pa_nil)) pa_nil)) (blkOk_by (own := [("_law_k", 2)]) (N := ["_law_found", "_law_due", "_law_k"]) (sc := (defScope (topS 40))) (by decide +kernel)) (fun _ _ _ _ _ => (pg_name (i := 2) sc_law_alike.nd rfl (Or.inl rfl))) (fun _ _ _ _ _ => (pts_one (pt_not (pt_val (C8.pe_c c_law_alike hr (Nat.le_refl _) rfl (pa_cons (pe_ix (ix_tupK K) (pv 0) (pv 2) (fun _ _ => rfl)) (pa_cons (pe_ix (ix_tupK K) (pv 1) (pv 2) (fun _ _ => rfl)) pa_nil))))))) (fun _ _ _ _ _ => (pv 2))) (pe_lst pa_nil) (nomark _)))))) pss_nil)
      (pss_cons (ps_if (PW.pt (pw_or (pt_cmpR op_isN (pv 1) pe_non (nomark _)) (pw_or1 (pt_val (pe_callB call_isi (by rfl) G.isinstance_ (by decide +kernel) (pa_cons (pv 1) (pa_cons (pe_bltn (v := .ty "str") (by rfl) G.str_ (by decide +kernel) rfl) pa_nil))))))) (pss_one (ps_ret (pe_and (pe_cmpR op_eq (pv 0) (pv 1) (nomark _)) (pe_one (pe_cmpR op_eq (pe_callB call_isi (by rfl) G.isinstance_ (by decide +kernel) (pa_cons (pv 0) (pa_cons (pe_bltn (v := .ty "str") (by rfl) G.str_ (by decide +kernel) rfl) pa_nil))) (pe_callB call_isi (by rfl) G.isinstance_ (by decide +kernel) (pa_cons (pv 1) (pa_cons (pe_bltn (v := .ty "str") (by rfl) G.str_ (by decide +kernel) rfl) pa_nil))) (nomark _)))))) pss_nil)
      (pss_one (ps_ret (pe_and (pe_callB call_isi (by rfl) G.isinstance_ (by decide +kernel) (pa_cons (pv 0) (pa_cons (pe_bltn (v := .ty "int") (by rfl) G.int_ (by decide +kernel) rfl) pa_nil))) (pe_and (pe_cmpR op_eq (pe_callB call_isi (by rfl) G.isinstance_ (by decide +kernel) (pa_cons (pv 0) (pa_cons (pe_bltn (v := .ty "bool") (by rfl) G.bool_ (by decide +kernel) rfl) pa_nil))) (pe_callB call_isi (by rfl) G.isinstance_ (by decide +kernel) (pa_cons (pv 1) (pa_cons (pe_bltn (v := .ty "bool") (by rfl) G.bool_ (by decide +kernel) rfl) pa_nil))) (nomark _)) (pe_one (pe_cmpR op_eq (pv 0) (pv 1) (nomark _))))))))), ?_⟩
    have flat : (x = .non ∧ y = .non) ∨ (∃ i, x = .int i ∧ y = .int i) ∨ ∃ m a b xs ys, n = m + 1 ∧ x = .ref a ∧ y = .ref b ∧ Rd H a (.tup xs) ∧ Rd H b (.tup ys) ∧ xs.length ≤ 100 ∧ Paired (Alk H m) xs ys := by
      cases n with
      | zero => exact ha.imp_right .inl
      | succ m =>
        rcases ha with (h | h) | h
        · exact .inl h
        · exact .inr (.inl h)
        · exact .inr (.inr ⟨m, let ⟨a, b, xs, ys, z⟩ := h; ⟨a, b, xs, ys, rfl, z⟩⟩)
    rcases flat with ⟨rfl, rfl⟩ | ⟨i, rfl, rfl⟩ | ⟨m, a, b, xs, ys, rfl, rfl, rfl, hxs, hys, hl, hp⟩
    · refine q_when (b := false) (et_B (ev_isiT (t := "NoneType") (x := .non) (b1 := false) (b2 := false) (ev_var rfl) (fun _ _ => .base .non) (by decide +kernel) (by decide +kernel))) (fun z => nomatch z) fun _ H1 e1 => ?_
      refine q_when (b := true) (et_or (a := true) (b := true) (et_test (ev_op (x := .non) (y := .non) (ev_var rfl) ev_c (fun H2 _ Q q => ⟨rfl, q H2 (Ex.refl _)⟩))) fun z => nomatch z) (fun _ H2 e2 => ?_) fun z => nomatch z
      have eq1 : Ev (tOp rEq (tVar 0) (tVar 1)) [some .non, some .non, none] H2 (.bl true) := ev_is (ev_op (x := .non) (y := .non) (ev_var rfl) (ev_var rfl) (rv_eq rfl)) (by rw [decide_eq_true rfl])
      have is1 : ∀ j, ([some V.non, some V.non, none] : L2.St)[j]? = some (some .non) → Ev (tCB (rIsi K) (tCons (tVar j) (tCons (tC (.ty "str")) tNil))) [some .non, some .non, none] H2 (.bl false) := fun j hj => ev_isi (t := "NoneType") (x := .non) (ev_var hj) (fun _ _ => .base .non) (by decide +kernel)
      refine s_ret (v := .bl true) (ev_andV (a := true) (b := true) eq1 fun _ => ev_is (ev_op (is1 0 rfl) (is1 1 rfl) (rv_eq rfl)) (by rw [decide_eq_true rfl])) fun H3 e3 => k H3 ((e1.trans e2).trans e3)
    · refine q_when (b := false) (et_B (ev_isiT (t := "int") (x := .int i) (b1 := false) (b2 := false) (ev_var rfl) (fun _ _ => .base (.int i)) (by decide +kernel) (by decide +kernel))) (fun z => nomatch z) fun _ H1 e1 => ?_
      have is1 : ∀ (H' : Hp) j c b, kitB "int" c = some b → ([some (V.int i), some (V.int i), none] : L2.St)[j]? = some (some (.int i)) → Ev (tCB (rIsi K) (tCons (tVar j) (tCons (tC (.ty c)) tNil))) [some (.int i), some (.int i), none] H' (.bl b) := fun H' j c b hb hj => ev_isi (t := "int") (x := .int i) (ev_var hj) (fun _ _ => .base (.int i)) hb
      refine q_when (b := false) (et_or (a := false) (b := false) (et_test (ev_op (x := .int i) (y := .non) (ev_var rfl) ev_c (fun H2 _ Q q => ⟨rfl, by
        rw [decide_eq_false (fun z => nomatch z)]
        exact q H2 (Ex.refl _)⟩))) fun _ => et_B (is1 _ 1 "str" false (by decide +kernel) rfl)) (fun z => nomatch z) fun _ H2 e2 => ?_
      refine s_ret (v := .bl true) (ev_andV (a := true) (b := true) (is1 _ 0 "int" true (by decide +kernel) rfl) fun _ => ev_andV (a := true) (b := true) (ev_is (ev_op (is1 _ 0 "bool" false (by decide +kernel) rfl) (is1 _ 1 "bool" false (by decide +kernel) rfl) (rv_eq rfl)) (by rw [decide_eq_true rfl])) fun _ => ev_is (ev_eqI (ev_var rfl) (ev_var rfl)) (by rw [decide_eq_true rfl])) fun H3 e3 => k H3 ((e1.trans e2).trans e3)
    · have isT : ∀ (H' : Hp) j (c : Addr) (zs : List V), Ex H H' → Rd H c (.tup zs) → ([some (V.ref a), some (V.ref b), none] : L2.St)[j]? = some (some (.ref c)) → Ev (tCB (rIsiT K) (tCons (tVar j) (tCons (tTup (tCons (tC (.ty "tuple")) (tCons (tC (.ty "list")) tNil))) tNil))) [some (V.ref a), some (V.ref b), none] H' (.bl true) := fun H' j c zs e hc hj =>
        ev_isiT (t := "tuple") (x := .ref c) (b1 := true) (b2 := false) (ev_var hj) (fun _ e1 => tyx_tup (ex_rd (e.trans e1) hc)) (by decide +kernel) (by decide +kernel)
      have isL : ∀ (H' : Hp) j (c : Addr) (zs : List V), Ex H H' → Rd H c (.tup zs) → ([some (V.ref a), some (V.ref b), none] : L2.St)[j]? = some (some (.ref c)) → Ev (tCB (rIsi K) (tCons (tVar j) (tCons (tC (.ty "list")) tNil))) [some (V.ref a), some (V.ref b), none] H' (.bl false) := fun H' j c zs e hc hj =>
        ev_isi (t := "tuple") (x := .ref c) (ev_var hj) (fun _ e1 => tyx_tup (ex_rd (e.trans e1) hc)) (by decide +kernel)
      refine q_when (b := true) (et_B (isT H 1 b ys (Ex.refl _) hys rfl)) (fun _ H1 e1 => ?_) fun z => nomatch z
      refine q_when (b := false) (et_or (a := false) (b := false) (et_not (a := true) (et_B (isT H1 0 a xs e1 hxs rfl))) fun _ => et_test (ev_is (ev_op (isL H1 0 a xs e1 hxs rfl) (isL H1 1 b ys e1 hys rfl) (rv_ne rfl)) (by rw [decide_eq_true rfl]; rfl))) (fun z => nomatch z) fun _ H2 e2 => ?_
      have e12 := e1.trans e2
      have hll := pr_len hp
      refine q_when (b := false) (et_test (ev_is (ev_neI (ev_len2 (ev_var rfl) (.inr (.inl (ex_rd e12 hxs)))) (ev_len2 (ev_var rfl) (.inr (.inl (ex_rd e12 hys))))) (by
        rw [hll]
        exact congrArg V.bl (decide_eq_false fun z => z rfl)))) (fun z => nomatch z) fun _ H3 e3 => ?_
      have e13 := e12.trans e3
      have hsp := hin m rfl
      subst hsp
      have hcomp := el_nats (H := H3) (l := List.range ys.length) (σ := [some (V.ref a), some (V.ref b), none]) (i := 2) (vs := [2]) (walks_rngN (ta := tCons (tCB (fun xs H Q => ∃ p ys, xs = [V.ref p] ∧ (SqL K H p ys ∨ SqT K H p ys) ∧ Q (.int ys.length) H) (tCons (tVar 1) tNil)) tNil) (ea_cons (ev_len2 (ev_var rfl) (.inr (.inl (ex_rd e13 hys)))) ea_nil) (by omega)) (by rw [List.length_range]; omega) (fun _ => rfl) (fun _ => false) (fun p => V.int (p : Nat))
        (tt := tNot (tB (tCall (spAlike m) [] C8.E0 (tCons (tOp (rIxT K) (tVar 0) (tVar 2)) (tCons (tOp (rIxT K) (tVar 1) (tVar 2)) tNil))))) (te := tVar 2)
        (fun p hp' H4 e4 => by
          have hp' : p < ys.length := List.mem_range.mp hp'
          obtain ⟨x, hx, hxy⟩ := pr_get hp (List.getElem?_eq_getElem hp')
          have e14 := e13.trans e4
          refine et_not (a := true) (et_B (ev_call (vs := [x, ys[p]]) (ea_cons (ev_op (ev_var rfl) (ev_var rfl) (rv_ixT (.inl (ex_rd e14 hxs)) (at_of hx))) (ea_cons (ev_op (ev_var rfl) (ev_var rfl) (rv_ixT (.inl (ex_rd e14 hys)) (at_of (List.getElem?_eq_getElem hp')))) ea_nil)) ?_))
          exact fun H5 e5 Q' q' _ => ⟨x, ys[p], rfl, hxy.mono (e14.trans e5), fun H6 e6 => q' H6 e6⟩) (fun p _ H4 e4 _ => ev_var rfl)
      rw [show (List.range ys.length).filter (fun _ => false) = [] from List.filter_eq_nil_iff.mpr fun _ _ z => nomatch z] at hcomp
      refine s_ret (v := .bl true) (ev_opLL hcomp (el_lst ea_nil (by show 0 ≤ 100000; omega)) fun p q H4 hp hq e4 H5 e5 Q k => ?_) fun H4 e4 => k H4 (e13.trans e4)
      exact ⟨.list [], .list [], .lst (sq_of (e5 _ _ hp)) .nil, .lst (sq_of (e5 _ _ hq)) .nil, rfl, rfl, k H5 (Ex.refl _)⟩
theorem ok_no (D : Dv K mg "_law_alike" (topS 40) ["_law_found", "_law_due"]) : Ca P w K mg base 1 "_law_alike" spNo :=
  dv_ok D sc_law_alike (fun vs H Q E h => h.elim) (fun f cdv A outer s H vs Q E hr h => h.elim)
theorem ok_law_alike (D : Dv K mg "_law_alike" (topS 40) ["_law_found", "_law_due"]) (G : Glob mg) : ∀ n, Ca P w K mg base (n + 2) "_law_alike" (spAlike n)
  | 0 => alike_body D G (ok_no D) 0 fun m z => nomatch z
  | n + 1 => alike_body D G (ok_law_alike D G n) (n + 1) fun m z => by
    cases z
    rfl
end
end K8
/-! number_of_top_lists -/
namespace K8
open PySem PySem.Spec PyProof.Rows L2 Evl
def rNoneValsN : R2 := fun x y H Q => ∃ (p a : Addr) (kvs : List (Key × V)), x = .non ∧ y = .ref p ∧ H p = some (valuesO p a) ∧ H a = some (.dK kvs) ∧ (∀ kv ∈ kvs, kv.2 = .non ∨ ∃ i, kv.2 = .int i) ∧ Q (.bl (!kvs.any fun kv => vNone kv.2)) H
section
variable {X : Cx}
theorem op_noneValsN (hc : X.calm = true) : OpR X (compareOp .NotIn) rNoneValsN := by
  intro pins s σ H x y v u Q I rx ry h
  obtain ⟨p, a, kvs, rfl, rfl, hp, ha, hv, q⟩ := h
  cases rx
  cases ry
  have view : s.heap.IsValuesView p a := (show ObjOk X.prog X.w H s.heap p (valuesO p a) from I.hok p _ hp).1
  obtain ⟨z, hd, vs, rel, dd⟩ := dk_of I.hok ha
  obtain ⟨o, es, ep, r⟩ := dd
  obtain ⟨n1, n2⟩ := kv_none rel hv
  show wpAny _ _ (contains (.ref p) .none >>= fun b => pure (Value.bool (!b))) _ _ _
  refine wpAny_bind (none_in_vals (knd := mixKind X.prog X.w) (ep := ep) (I.ok.hd hc) view ⟨o, es, r⟩ n1 fun h' hk => wpAny_pure ?_)
  rw [n2]
  exact ⟨.bl _, H, I.kept (t' := s.toks) hk, rfl, q⟩
variable (K : PySem.W.Frag) {o : Expr} {to : TE} {name : Str} {apos cpos : Pos} {T id : String} {r : V → List V → Hp → VK → Prop}
theorem pe_bm0Z (pa : PlainAttrs T) (slot : Slot T name id) (hty : typeOf (.builtin id) = pure (.type "method_descriptor")) (hm : MtR X id r) (ho : PE X o to)
    (hbase : attributeBase o name X.env (eval o X.env) = eval o X.env := by rfl) (hline : (apos.endLine == cpos.line) = true := by rfl) (h : X.K = K := by rfl) : PE X (.Call (.Attribute o name apos) [] [] cpos) (tBM0 K T r to) := h ▸ pe_bm0 pa slot hty hm ho hbase hline
end
section
variable {K : PySem.W.Frag} {σ : L2.St} {H : Hp} {ta te tl : TE} {tt : TT} {D : Ends}
theorem s_appP {P : Hp → V → Prop} {l : Addr} {xs : List V} (hl : H l = some (.lst xs)) (ha : Ev ta σ H (.ref l)) (h : EvP te σ H P) (hz : xs.length < 100000) (k : ∀ v H1, Ex H H1 → P H1 v → D.nx σ (upd H1 l (.lst (xs ++ [v])))) :
    tDrop (tBM K "list" rAppend ta (tCons te tNil)) D σ H := ha H (Ex.refl H) _ fun H1 e1 =>
  ⟨Or.inl ⟨rfl, xs, sq_of (e1 l _ hl)⟩, h H1 e1 _ fun v H2 e2 hv => ⟨l, xs, v, rfl, rfl, e2 l _ (e1 l _ hl), sz_lt hz, k v H2 (e1.trans e2) hv⟩⟩
/-- row + ((place, height),) -/
theorem evp_add {row : List Top} {v : V} {k : Nat} {x : Int} {tk tx : TE} (ha : Ev ta σ H v) (hr : TupOf PairP H row v) (hk : Ev tk σ H (.int (k : Nat))) (hx : Ev tx σ H (.int x)) (hz : row.length ≤ 1000) :
    EvP (tOp (rCatA K) ta (tTup (tCons (tTup (tCons tk (tCons tx tNil))) tNil))) σ H fun H1 v => TupOf PairP H1 (row ++ [(k, x)]) v := fun H1 e Q q => by
  obtain ⟨p, ws, rfl, hp, hw⟩ := hr
  refine ha H1 e _ fun H2 e2 => ?_
  refine raw_tup (raw_cons ((eu_tup (ea_cons hk (ea_cons hx ea_nil)) (by show 2 ≤ 100000; omega)) H2 (e.trans e2) _ fun u H3 hu e3 h3 => ⟨by show 1 ≤ sizeLine; decide, fun t ht => ?_⟩))
  have e4 : Ex H3 (upd H3 t (.tup [.ref u])) := Ex.new ht
  have e14 := (e2.trans e3).trans e4
  refine ⟨p, t, ws, [.ref u], rfl, rfl, st_of ((e.trans e14) _ _ hp), st_of upd_same, sz_of (by rw [← pr_len hw]; show _ + 1 ≤ _; omega), fun hws => ?_, (fun _ z => nomatch z), fun _ _ r hr => ?_⟩
  · subst hws
    cases hw
    exact q _ _ e14 ⟨t, [.ref u], rfl, upd_same, .cons ⟨u, rfl, e4 _ _ h3⟩ .nil⟩
  · have e5 := Ex.new (o := HO.tup (ws ++ [V.ref u])) hr
    exact q _ _ (e14.trans e5) ⟨r, ws ++ [.ref u], rfl, upd_same, pr_snoc (pr_mono (fun _ _ => PairP.mono ((e.trans e14).trans e5)) hw) ⟨u, rfl, e5 _ _ (e4 _ _ h3)⟩⟩
theorem ev_noneValsN {td : TE} {kvs : List (Key × V)} (h1 : EvP td σ H fun H2 r => ∃ d, r = .ref d ∧ H2 d = some (.dK kvs)) (hv : ∀ kv ∈ kvs, kv.2 = .non ∨ ∃ i, kv.2 = .int i) : Ev (tOp rNoneValsN (tC .non) (tBM0 K "dict" rVals td)) σ H (.bl (!kvs.any fun kv => vNone kv.2)) := fun H1 e Q q => by
  refine h1 H1 e _ fun v H2 e2 hd => ?_
  obtain ⟨d, rfl, hd2⟩ := hd
  refine ⟨.inr (.inr (.inl ⟨rfl, .inl ⟨kvs, hd2⟩⟩)), d, kvs, rfl, rfl, hd2, fun p hp => ?_⟩
  exact ⟨p, d, kvs, rfl, rfl, upd_same, (Ex.new hp) _ _ hd2, hv, q _ (e2.trans (Ex.new hp))⟩
theorem ev_neNo {row : List Top} {v : V} (ha : Ev ta σ H v) (hr : TopsP H row v) : Ev (tOp (rNeD K) ta (tTup tNil)) σ H (.bl (decide (row ≠ []))) := by
  refine ev_opU ha (eu_tup ea_nil (by show 0 ≤ 100000; omega)) fun p H1 hp e => fun H2 e2 Q k => ?_
  refine ⟨.tuple (row.map pdT), .tuple [], dp_tops (hr.mono (e.trans e2)), .tup (st_of (e2 _ _ hp)) .nil, shaped_tops row, rfl, ?_⟩
  have : (!PyData.eqv (.tuple (row.map pdT)) (.tuple [])) = decide (row ≠ []) := by
    show (!PyData.eqvAll _ _) = _
    rw [eqv_nil]
    cases row <;> rfl
  rw [this]
  exact k H2 (Ex.refl _)
theorem rowP_upd {H : Hp} {l : Addr} {ys zs : List V} {t : List Top} {v : V} (h : H l = some (.lst ys)) : TupOf PairP H t v → TupOf PairP (upd H l (.lst zs)) t v := fun ⟨p, ws, e, hp, hw⟩ => ⟨p, ws, e, (by
  rw [upd_ne fun z => by
    rw [z, h] at hp
    cases hp]
  exact hp), pr_mono (fun _ _ => pair_list h) hw⟩
end
theorem len_part {D : Tab} {m : Int} (hm : m ≤ 5) (k j : Nat) (hk : k ≤ 3) (part : List (List Top)) (hp : part.length ≤ 6) : (tl D m k ++ ((tl D m k).take j).flatMap (addAt D m k) ++ part).length ≤ 3000 := by
  rw [List.length_append, List.length_append]
  have a1 := tl_len D hm k
  have a2 : 7 ^ k ≤ 7 ^ 3 := Nat.pow_le_pow_right (by omega) hk
  have a3 := flatMap_le (addAt D m k) 6 ((tl D m k).take j) fun a _ => addAt_len D hm k a
  have a4 : ((tl D m k).take j).length ≤ (tl D m k).length := by
    rw [List.length_take]
    omega
  omega
theorem row_len {D : Tab} {m : Int} {k : Nat} {row : List Top} (h : row ∈ tl D m k) : row.length ≤ k := by
  obtain ⟨h1, h2, _⟩ := mem_tl.mp h
  have e := rise_filter (l := row.map (·.1)) (n := k) (List.pairwise_map.mpr h1) fun x hx => by
    obtain ⟨t, ht, rfl⟩ := List.mem_map.mp hx
    exact (h2 t ht).1
  have a := List.length_filter_le (fun x => decide (x ∈ row.map (·.1))) (List.range k)
  rw [e, List.length_range, List.length_map] at a
  exact a
theorem add_take {D : Tab} {k : Nat} {row : List Top} (i : Nat) : (((rangeI ((i + 1 : Nat) : Int)).filter (compat D row k)).map fun h => row ++ [(k, h)]) = (((rangeI (i : Int)).filter (compat D row k)).map fun h => row ++ [(k, h)]) ++ (if compat D row k (i : Int) = true then [row ++ [(k, (i : Int))]] else []) := by
  rw [show ((i + 1 : Nat) : Int) = (i : Int) + 1 by omega, rangeI_succ (by omega), List.filter_append, List.map_append]
  congr 1
  rw [List.filter_cons]
  split <;> rfl
section
variable {P : Program} {w : World} {K : PySem.W.Frag} {mg : Str → Option Value} {base : Heap}
theorem sc_number_of_top_lists : FnScope ["net", "most", "table", "rows", "place", "later", "row", "height", "one", "level"] ["net", "most"] (defScope (topS 29)) := ⟨rfl, rfl, rfl, by decide +kernel, rfl, by decide +kernel, by decide +kernel⟩
def spLists : Sp := fun vs H Q _ => ∃ (v : V) (n : Nat) (rods : List Rod) (m : Int), vs = [v, .int m] ∧ NetP H n rods v ∧ NetOk n rods ∧ 0 ≤ m ∧ m ≤ 5 ∧ ∀ H', Ex H H' → Q (.int (nLists n (fw n rods) m : Nat)) H'
theorem ok_number_of_top_lists (D : Dv K mg "number_of_top_lists" (topS 29) ["net", "most"]) (G : Glob mg) (c_need_net : Ca P w K mg base 3 "need_net" spNeedNet) (c_need_number : Ca P w K mg base 3 "need_number" spNeedNumber) (c_table_of : Ca P w K mg base 1 "table_of" spTable) (c_covers_of : Ca P w K mg base 1 "covers_of" spCovers) : Ca P w K mg base 4 "number_of_top_lists" spLists := by
  refine dv_ok D sc_number_of_top_lists (fun vs H Q E h => ?_) (fun f cdv A outer s H vs Q E hr h => ?_)
  · obtain ⟨v, n, rods, m, rfl, _⟩ := h
    rfl
  · obtain ⟨v, n, rods, m, rfl, hnet, N, m0, m5, k⟩ := h
    refine ⟨_, (pss_cons (ps_expr (C8.pe_c c_need_net hr (by decide) rfl (pa_cons (pv 0) pa_nil)))
      (pss_cons (ps_expr (C8.pe_c c_need_number hr (by decide) rfl (pa_cons (pv 1) (pa_cons pe_int (pa_cons pe_int pa_nil)))))
      (pss_cons (ps_asg (pe_tup (pa_cons (C8.pe_c c_table_of hr (by decide) rfl (pa_cons (pv 0) pa_nil)) (pa_cons (pe_lst (pa_cons (pe_tup pa_nil) pa_nil)) pa_nil))) (pg_tup rfl (pgs_cons (pg_name (i := 2) sc_number_of_top_lists.nd rfl (Or.inr rfl)) (pgs_cons (pg_name (i := 3) sc_number_of_top_lists.nd rfl (Or.inl rfl)) pgs_nil))))
      (pss_cons (ps_for PassesOwn.never rfl (pi_range1 (by rfl) G.range_ (pa_cons (pe_ix ix_tup (pv 0) pe_int (fun _ _ => rfl)) pa_nil)) (pg_name (i := 4) sc_number_of_top_lists.nd rfl (Or.inr rfl)) (pss_cons (ps_set (i := 5) sc_number_of_top_lists.nd rfl (Or.inl rfl) (pe_callTy call_list_of (by rfl) G.list_ (by decide +kernel) (pa_cons (pv 3) pa_nil)))
      (pss_cons (ps_for PassesOwn.never rfl (pi_list (pv 3)) (pg_name (i := 6) sc_number_of_top_lists.nd rfl (Or.inl rfl)) (pss_cons (ps_for PassesOwn.never rfl (pi_range1 (by rfl) G.range_ (pa_cons (pe_op op_add (pv 1) pe_int) pa_nil)) (pg_name (i := 7) sc_number_of_top_lists.nd rfl (Or.inr rfl)) (pss_one (ps_if (pt_val (pe_callB (cr_all rfl) (by rfl) G.all_ (by decide +kernel) (pa_cons (pe_lc (own := [("one", 8), ("level", 9)]) (g := (gTup K 2 (gCons (gName 8) (gCons (gName 9) gNil)))) (tt := tYes) rfl sc_number_of_top_lists.nd (pi_tup (pv 6)) (blkOk_by (own := [("one", 8), ("level", 9)]) (N := ["net", "most", "table", "rows", "place", "later", "row", "height", "one", "level"]) (sc := (defScope (topS 29))) (by decide +kernel)) (fun _ _ _ _ _ => (pg_tup rfl (pgs_cons (pg_name (i := 8) sc_number_of_top_lists.nd rfl (Or.inl rfl)) (pgs_cons (pg_name (i := 9) sc_number_of_top_lists.nd rfl (Or.inl rfl)) pgs_nil)))) (fun _ _ _ _ _ => pts_nil) (fun _ _ _ _ _ => (pe_cmpR op_lt (pe_callB call_abs (by rfl) G.abs_ (by decide +kernel) (pa_cons (pe_op op_sub (pv 7) (pv 9)) pa_nil)) (pe_ix (ix_listK K) (pe_ix (ix_listK K) (pv 2) (pv 8) (fun _ _ => rfl)) (pv 4) (fun _ _ => rfl)) (nomark _)))) pa_nil))) (pss_one (ps_expr (pe_bm PySem.F.plainAttrs_list PySem.F.slot_list_append PySem.F.type_list_append mt_append (pv 5) (pa_cons (pe_op op_catA (pv 6) (pe_tup (pa_cons (pe_tup (pa_cons (pv 4) (pa_cons (pv 7) pa_nil))) pa_nil))) pa_nil)))) pss_nil)))
      (pss_one (ps_if (pt_cmpR op_gt (pe_callB call_len_seq (by rfl) G.len_ (by decide +kernel) (pa_cons (pv 5) pa_nil)) (C8.pe_gc rfl G.MOST_LISTS) (nomark _)) (pss_one ps_never) pss_nil))))
      (pss_one (ps_set (i := 3) sc_number_of_top_lists.nd rfl (Or.inl rfl) (pv 5))))))
      (pss_one (ps_ret (pe_callB call_len_seq (by rfl) G.len_ (by decide +kernel) (pa_cons (pe_lc (own := [("row", 6)]) (g := (gName 6)) rfl sc_number_of_top_lists.nd (pi_list (pv 3)) (blkOk_by (own := [("row", 6)]) (N := ["net", "most", "table", "rows", "place", "later", "row", "height", "one", "level"]) (sc := (defScope (topS 29))) (by decide +kernel)) (fun _ _ _ _ _ => (pg_name (i := 6) sc_number_of_top_lists.nd rfl (Or.inl rfl))) (fun _ _ _ _ _ => (pts_one (PW.pt (pw_and (pt_cmpR (op_neDK K hr.units) (pv 6) (pe_tup pa_nil) (nomark _)) (pw_and1 (pt_cmpR (op_noneValsN rfl) pe_non (pe_bm0Z K PySem.F.plainAttrs_dict PySem.F.slot_dict_values PySem.F.type_dict_values mt_values (C8.pe_c c_covers_of hr (by decide) rfl (pa_cons (pv 2) (pa_cons (pv 6) pa_nil)))) (by rfl))))))) (fun _ _ _ _ _ => (pv 6))) pa_nil)))))))), ?_⟩
    have n1 := N.n1
    have n4 := N.n4
    generalize hB : fw n rods = B at k
    obtain ⟨pn, w0, rfl, hn0, htup⟩ := id hnet
    refine q_drop (ev_call (z := .non) (ea_cons (ev_var rfl) ea_nil) fun H2 e Q q E => ⟨.ref pn, n, rods, rfl, hnet.mono e, N, fun H3 e3 => q H3 e3⟩) fun H1 e1 => ?_
    refine q_drop (ev_call (z := .non) (ea_cons (ev_var rfl) (ea_cons ev_c (ea_cons ev_c ea_nil))) fun H2 e Q q E => ⟨m, 0, 9, rfl, m0, by omega, q H2 (Ex.refl _)⟩) fun H2 e2 => ?_
    refine q_tup (raw_cons (call_raw (ea_cons (ev_var rfl) ea_nil) fun H3 e3 => ⟨.ref pn, n, rods, rfl, hnet.mono ((e1.trans e2).trans e3), N, fun H4 u e4 hu => ?_⟩))
    rw [hB] at hu
    refine raw_cons ((els_one (evN_of_U (eu_tup ea_nil (by show 0 ≤ 100000; omega)))) H4 (Ex.refl _) _ fun fa ys H5 hfa e5 h5 hn5 => ⟨by show 2 ≤ sizeLine; decide, fun pt hpt => ?_⟩)
    refine g_two upd_same ?_
    have hp5 : Paired (TupOf PairP H5) (tl B m 0) ys := by
      cases hn5 with
      | cons a t =>
        cases t
        obtain ⟨q, e, _, hq⟩ := a
        exact .cons ⟨q, [], e, hq, .nil⟩ .nil
    generalize hH6 : upd H5 pt (.tup [u, .ref fa]) = H6
    have e6 : Ex H5 H6 := by rw [← hH6]; exact Ex.new hpt
    have e06 : Ex H H6 := ((((e1.trans e2).trans e3).trans e4).trans e5).trans e6
    have u6 := hu.mono (e5.trans e6)
    have n6 := e06 _ _ hn0
    refine q_forR1 (n := (n : Nat)) (ea_cons (ev_op (ev_var rfl) ev_c (rv_ixT (st_of n6) (at_of (j := 0) rfl))) ea_nil) (by omega) (fun i σ' H' => Ex H6 H' ∧ ∃ fb ws y4 y5 y6 y7, σ' = [some (.ref pn), some (.int m), some u, some (.ref fb), y4, y5, y6, y7, none, none] ∧ H' fb = some (.lst ws) ∧ Paired (TupOf PairP H') (tl B m i) ws)
      (fun H7 e7 => ⟨e7, fa, ys, _, _, _, _, rfl, e7 _ _ (e6 _ _ h5), pr_mono (fun _ _ => TupOf.mono (fun _ _ => PairP.mono (e6.trans e7)) (e6.trans e7)) hp5⟩) ?_ ?_
    · rintro i σ' H7 hi ⟨e7, fb, ws, y4, y5, y6, y7, rfl, h7, hw⟩
      have hi : i < n := by omega
      refine q_asgL (xs := ws) (el_list (K := K) (ev_var rfl) (sq_of h7)) fun la H8 hla e8 h8 => ?_
      have hm1 : ((m + 1).toNat : Int) = m + 1 := by omega
      refine q_forLn (ev_var rfl) (sq_of (e8 _ _ h7)) (fun j σ' H' => Ex H7 H' ∧ ∃ vs y6 y7, σ' = [some (.ref pn), some (.int m), some u, some (.ref fb), some (.int (i : Nat)), some (.ref la), y6, y7, none, none] ∧ H' la = some (.lst vs) ∧ Paired (TupOf PairP H') (tl B m i ++ ((tl B m i).take j).flatMap (addAt B m i)) vs)
        (fun H9 e9 => ⟨e8.trans e9, ws, _, _, rfl, e9 _ _ h8, by
          rw [List.take_zero, List.flatMap_nil, List.append_nil]
          exact pr_mono (fun _ _ => TupOf.mono (fun _ _ => PairP.mono (e8.trans e9)) (e8.trans e9)) hw⟩) (fun j σ' H' _ z => sq_of (z.1 _ _ h7)) ?_ ?_
      · rintro j x σ' H9 hx ⟨e9, vs, y6, y7, rfl, h9, hv⟩
        obtain ⟨row, hrow, q, wr, rfl, hq, hpr⟩ := pr_get hw hx
        have hmem := List.mem_of_getElem? hrow
        have hrl := row_len hmem
        have hrm := (mem_tl.mp hmem).2.1
        refine q_forR1 (n := m + 1) (ea_cons (ev_add (ev_var rfl) ev_c) ea_nil) (by omega) (fun h σ' H' => Ex H7 H' ∧ ∃ vs y7, σ' = [some (.ref pn), some (.int m), some u, some (.ref fb), some (.int (i : Nat)), some (.ref la), some (.ref q), y7, none, none] ∧ H' la = some (.lst vs) ∧ Paired (TupOf PairP H') (tl B m i ++ ((tl B m i).take j).flatMap (addAt B m i) ++ (((rangeI (h : Int)).filter (compat B row i)).map fun h => row ++ [(i, h)])) vs)
          (fun HA eA => ⟨e9.trans eA, vs, _, rfl, eA _ _ h9, by
            rw [show ((rangeI ((0 : Nat) : Int)).filter (compat B row i)).map (fun h => row ++ [(i, h)]) = [] from rfl, List.append_nil]
            exact pr_mono (fun _ _ => TupOf.mono (fun _ _ => PairP.mono eA) eA) hv⟩) ?_ ?_
        · rintro h σ' HA hh ⟨eA, vs, y7, rfl, hA, hv⟩
          have hcomp := el_pairs (K := K) (H := HA) (σ := [some (.ref pn), some (.int m), some u, some (.ref fb), some (.int (i : Nat)), some (.ref la), some (.ref q), some (.int (h : Nat)), none, none]) (tl := tVar 6) (vs := [8, 9]) (i := 8) (j := 9) (tt := tYes)
            (te := tOp (rI0 fun i j => .bl (decide (i < j))) (tCB (fun xs H Q => ∃ i, xs = [V.int i] ∧ Q (.int (if i < 0 then -i else i)) H) (tCons (tOp (rI0 fun i j => .int (i - j)) (tVar 7) (tVar 9)) tNil)) (tOp (rIxL K) (tOp (rIxL K) (tVar 2) (tVar 8)) (tVar 4)))
            (ev_var rfl) (.inl (eA _ _ hq)) (pr_mono (fun _ _ => PairP.mono eA) hpr) (by omega) (fun _ _ => rfl) (fun _ => true) (fun t => V.bl (decide (absI ((h : Int) - t.2) < B t.1 i))) (fun _ _ _ _ => et_yes)
            (fun t ht HB eB _ => ev_lt (ev_abs (ev_sub (ev_var rfl) (ev_var rfl))) (ev_cell (ev_var rfl) (ev_var rfl) (ev_var rfl) (u6.mono ((e7.trans eA).trans eB)) (by have := (hrm t ht).1; omega) hi))
          rw [filter_all, show (row.map fun t : Top => V.bl (decide (absI ((h : Int) - t.2) < B t.1 i))) = (row.map fun t : Top => decide (absI ((h : Int) - t.2) < B t.1 i)).map V.bl by rw [List.map_map]; rfl] at hcomp
          have part : ∀ h : Nat, (h : Int) ≤ m + 1 → (((rangeI (h : Int)).filter (compat B row i)).map fun h => row ++ [(i, h)]).length ≤ 6 := fun h hh => by
            rw [List.length_map]
            have a := List.length_filter_le (compat B row i) (rangeI (h : Int))
            rw [rangeI_len] at a
            omega
          have hvl : vs.length ≤ 3000 := by
            rw [← pr_len hv]
            exact len_part m5 i j (by omega) _ (part h (by omega))
          refine s_when (b := compat B row i (h : Int)) (et_is (et_B (ev_all hcomp)) (by rw [List.all_map]; rfl)) (fun hb HB eB => ?_) fun hb HB eB => ⟨eA.trans eB, vs, _, rfl, eB _ _ hA, by
            rw [add_take, if_neg (by rw [hb]; decide), List.append_nil]
            exact pr_mono (fun _ _ => TupOf.mono (fun _ _ => PairP.mono eB) eB) hv⟩
          refine s_appP (eB _ _ hA) (ev_var rfl) (evp_add (row := row) (k := i) (x := (h : Int)) (ev_var rfl) ⟨q, wr, rfl, (eA.trans eB) _ _ hq, pr_mono (fun _ _ => PairP.mono (eA.trans eB)) hpr⟩ (ev_var rfl) (ev_var rfl) (by omega)) (by omega) fun v HC eC hvC => ?_
          have hlC := eC _ _ (eB _ _ hA)
          refine ⟨Ex.mut ((eA.trans eB).trans eC) hla, _, _, rfl, upd_same, ?_⟩
          rw [add_take, if_pos hb, ← List.append_assoc]
          exact pr_snoc (pr_mono (fun _ _ z => rowP_upd hlC (TupOf.mono (fun _ _ => PairP.mono (eB.trans eC)) (eB.trans eC) z)) hv) (rowP_upd hlC hvC)
        · rintro σ' HA ⟨eA, vs, y7, rfl, hA, hv⟩
          rw [hm1] at hv
          have hvl : vs.length ≤ 3000 := by
            rw [← pr_len hv]
            exact len_part m5 i j (by omega) _ (addAt_len B m5 i row)
          refine s_when (b := false) (et_test (ev_is (ev_gt (ev_len2 (ev_var rfl) (.inl (sq_of hA))) ev_c) (congrArg V.bl (decide_eq_false (by omega))))) (fun z => nomatch z) fun _ HB eB => ⟨eA.trans eB, vs, _, _, rfl, eB _ _ hA, ?_⟩
          rw [flatMap_take_succ _ hrow, ← List.append_assoc]
          exact pr_mono (fun _ _ => TupOf.mono (fun _ _ => PairP.mono eB) eB) hv
      · rintro σ' H9 ⟨e9, vs, y6, y7, rfl, h9, hv⟩
        rw [← pr_len hw, List.take_length] at hv
        exact s_asg (ev_var rfl) fun HA eA => ⟨(e7.trans e9).trans eA, la, vs, _, _, _, _, rfl, eA _ _ h9, pr_mono (fun _ _ => TupOf.mono (fun _ _ => PairP.mono eA) eA) hv⟩
    · rintro σ' H7 ⟨e7, fb, ws, y4, y5, y6, y7, rfl, h7, hw⟩
      rw [show ((n : Nat) : Int).toNat = n by omega] at hw
      have hwl := pr_len hw
      have hlen : ws.length ≤ 10000 := by
        rw [← hwl]
        have a1 := tl_len B m5 n
        have a2 : 7 ^ n ≤ 7 ^ 4 := Nat.pow_le_pow_right (by omega) n4
        omega
      have get : ∀ j x, ws[j]? = some x → ∃ row, (tl B m n).getD j [] = row ∧ row ∈ tl B m n ∧ TupOf PairP H7 row x := fun j x hx => by
        obtain ⟨row, hrow, hr⟩ := pr_get hw hx
        exact ⟨row, by rw [List.getD_eq_getElem?_getD, hrow]; rfl, List.mem_of_getElem? hrow, hr⟩
      have tops : ∀ {row : List Top} {x : V} {H' : Hp}, Ex H7 H' → TupOf PairP H7 row x → TopsP H' row x := fun e ⟨q, wr, a, b, c⟩ => ⟨q, wr, a, .inl (e _ _ b), pr_mono (fun _ _ => PairP.mono e) c⟩
      have hcomp := el_lcW (H := H7) (σ := [some (.ref pn), some (.int m), some u, some (.ref fb), y4, y5, y6, y7, none, none]) (walks_list (K := K) (te := tVar 3) (ev_var rfl) (sq_of h7)) (by omega) (g := gName 6) (vs := [6]) (t := tAnd (tTest (tOp (rNeD K) (tVar 6) (tTup tNil))) (tTest (tOp rNoneValsN (tC .non) (tBM0 K "dict" rVals (tCall spCovers [] C8.E0 (tCons (tVar 2) (tCons (tVar 6) tNil))))))) (te := tVar 6)
        (fun j x => [some (.ref pn), some (.int m), some u, some (.ref fb), y4, y5, some x, y7, none, none]) (fun j x H8 e hx Q q => q) (fun _ _ _ => rfl) (fun j => goodT n B ((tl B m n).getD j [])) (fun j => ws.getD j .non)
        (fun j x H8 e8 hx => by
          obtain ⟨row, e, hmem, hr⟩ := get j x hx
          rw [e]
          have hrl := row_len hmem
          have hrm := (mem_tl.mp hmem).2.1
          refine et_and (et_test (ev_neNo (ev_var rfl) (tops e8 hr))) fun hne => et_is (et_test (ev_noneValsN (kvs := coversL n B row) (evp_call (ea_cons (ev_var rfl) (ea_cons (ev_var rfl) ea_nil)) fun H9 e9 Q q E => ⟨u, x, n, B, row, rfl, u6.mono ((e7.trans e8).trans e9), tops (e8.trans e9) hr, fun t ht => (hrm t ht).1, of_decide_eq_true hne, by omega, by omega, fun HA d eA hd hA => q _ HA eA ⟨d, rfl, hA⟩⟩) (covers_vals n B row))) ?_
          rw [covers_none, Bool.not_not])
        (fun j x H8 e8 hx _ => by
          rw [show ws.getD j .non = x by rw [List.getD_eq_getElem?_getD, hx]; rfl]
          exact ev_var rfl)
      refine s_ret (v := .int (nLists n B m : Nat)) (ev_is (ev_lenL hcomp) ?_) fun H8 e8 => k H8 ((e06.trans e7).trans e8)
      refine congrArg V.int ?_
      unfold given nLists
      rw [List.length_map, ← hwl]
      have := congrArg List.length (range_filter_get [] (goodT n B) id (tl B m n))
      rw [List.length_map, List.length_map] at this
      rw [this]
end
end K8
/-! a dict whose keys are tuples of pairs -/
namespace K8
open PySem PySem.Spec PyProof.Rows L2 Evl
def nkT (p : Top) : NestedKey := .tup [.num (p.1 : Nat), .num p.2]
def nk (t : List Top) : NestedKey := .tup (t.map nkT)
theorem nkT_inj {p q : Top} (h : nkT p = nkT q) : p = q := by
  unfold nkT at h
  injection h with h
  injection h with h1 h2
  injection h2 with h2 _
  injection h1 with h1
  injection h2 with h2
  exact Prod.ext (by omega) h2
theorem nk_inj {t u : List Top} (h : nk t = nk u) : t = u := by
  unfold nk at h
  injection h with h
  have gen : ∀ {t u : List Top}, t.map nkT = u.map nkT → t = u := by
    intro t
    induction t with
    | nil =>
      intro u h
      cases u with
      | nil => rfl
      | cons _ _ => cases h
    | cons a t ih =>
      intro u h
      cases u with
      | nil => cases h
      | cons b u =>
        rw [List.map_cons, List.map_cons] at h
        injection h with h1 h2
        rw [nkT_inj h1, ih h2]
  exact gen h
theorem nk_depth (t : List Top) : (nk t).depth ≤ 8 := by
  have gen : ∀ t : List Top, NestedKey.depthAll (t.map nkT) ≤ 1 := fun t => by
    induction t with
    | nil => exact Nat.zero_le _
    | cons a t ih =>
      rw [List.map_cons, NestedKey.depthAll]
      refine Nat.max_le.mpr ⟨?_, ih⟩
      exact Nat.le_refl _
  unfold nk
  rw [NestedKey.depth]
  have := gen t
  omega
def entN (w : World) (x : List Top × Addr) : DictEntry := ⟨(nk x.1).hash w, .ref x.2, .bool true⟩
def dN (w : World) (p : Addr) (xs : List (List Top × Addr)) : HO := .ext fun h => (p == sysModules) = false ∧ ∃ o es ep, h.get? p = some o ∧ o.ExactDict ∧ o.data = .dict es ep ∧ es.toList = xs.map (entN w)
def xsH (xs : List (List Top × Addr)) : List (NestedKey × Addr × Value) := xs.map fun x => (nk x.1, x.2, .bool true)
def putN (xs : List (List Top × Addr)) (t : List Top) (q : Addr) : List (List Top × Addr) := if t ∈ xs.map (·.1) then xs else xs ++ [(t, q)]
theorem putN_keys (xs : List (List Top × Addr)) (t : List Top) (q : Addr) : (putN xs t q).map (·.1) = addKey (xs.map (·.1)) t := by
  unfold putN addKey
  split
  · rfl
  · rw [List.map_append]
    rfl
theorem atH {xs : List (List Top × Addr)} {t : List Top} : (atKey (xsH xs) (nk t)).isSome = decide (t ∈ xs.map (·.1)) := by
  unfold atKey xsH
  rw [Option.isSome_map, Bool.eq_iff_iff, List.find?_isSome, decide_eq_true_eq]
  constructor
  · rintro ⟨x, hx, e⟩
    obtain ⟨y, hy, rfl⟩ := List.mem_map.mp hx
    exact List.mem_map.mpr ⟨y, hy, nk_inj (of_decide_eq_true e)⟩
  · intro h
    obtain ⟨y, hy, e⟩ := List.mem_map.mp h
    exact ⟨_, List.mem_map.mpr ⟨y, hy, rfl⟩, decide_eq_true (by rw [e])⟩
theorem putH {xs : List (List Top × Addr)} {t : List Top} {q : Addr} : storedH (xsH xs) (nk t) q (.bool true) = xsH (putN xs t q) := by
  unfold storedH putN
  by_cases c : t ∈ xs.map (·.1)
  · rw [atH, if_pos (decide_eq_true c), if_pos c]
    unfold xsH
    rw [List.map_map]
    refine List.map_congr_left fun x _ => ?_
    show putAt (nk t) (.bool true) (nk x.1, x.2, .bool true) = (nk x.1, x.2, .bool true)
    unfold putAt
    split <;> rfl
  · rw [atH, if_neg (by rw [decide_eq_false c]; decide), if_neg c]
    unfold xsH
    rw [List.map_append]
    rfl
section
variable {X : Cx} {pins : List (Addr × Obj)} {σ : L2.St} {H : Hp} {s : Shared}
theorem nested_all (I : Inv X pins σ H s) : ∀ {t : List Top} {ws : List V} {its : List Value}, Paired (PairP H) t ws → Vals ws its → NestedAll s.heap (t.map nkT) its
  | _, _, _, .nil, .nil => .nil
  | _, _, _, .cons ⟨p, e, h⟩ r, .cons rv rt => by
    subst e
    cases rv
    obtain ⟨its2, rv2, ⟨o, ho, hc, n, hd⟩, _⟩ := I.tuple (st_of h)
    obtain ⟨u1, u2, rfl, ⟨t1, rfl⟩, ⟨t2, rfl⟩⟩ := vals2 rv2
    exact .cons (.tup ho hc hd (.cons (.int _ _) (.cons (.int _ _) .nil))) (nested_all I r rt)
theorem nested_of (I : Inv X pins σ H s) {t : List Top} {a : Addr} (h : TopsP H t (.ref a)) : (nestedKind X.prog X.w).is s.heap (nk t) a := by
  obtain ⟨p, ws, e, hp, hw⟩ := h
  cases e
  obtain ⟨its, rv, ⟨o, ho, hc, n, hd⟩, _⟩ := I.tuple (.inl hp)
  exact ⟨.tup ho hc hd (by simpa using nested_all I hw rv), nk_depth t⟩
theorem dN_of (I : Inv X pins σ H s) {p : Addr} {xs : List (List Top × Addr)} (h : H p = some (dN X.w p xs)) (hk : ∀ x ∈ xs, TopsP H x.1 (.ref x.2)) (nd : (xs.map (·.1)).Nodup) : (p == sysModules) = false ∧ s.heap.DictOfH (nestedKind X.prog X.w) p (xsH xs) := by
  obtain ⟨⟨hp, o, es, ep, h1, h2, h3, h4⟩, _⟩ := (show ObjOk X.prog X.w H s.heap p (dN X.w p xs) from I.hok p _ h)
  refine ⟨hp, o, es, ep, h1, h2, h3, ?_, fun x hx => ?_, ?_⟩
  · rw [h4]
    unfold xsH
    rw [List.map_map]
    rfl
  · obtain ⟨y, hy, rfl⟩ := List.mem_map.mp hx
    exact nested_of I (hk y hy)
  · unfold xsH
    rw [List.map_map, List.nodup_iff_pairwise_ne, List.pairwise_map]
    rw [List.nodup_iff_pairwise_ne, List.pairwise_map] at nd
    exact nd.imp fun h z => h (nk_inj z)
theorem dN_ok {P : Program} {w : World} {H' : Hp} {h : Heap} {p : Addr} {xs : List (List Top × Addr)} (hp : (p == sysModules) = false) (hd : h.DictOfH (nestedKind P w) p (xsH xs)) : ObjOk P w H' h p (dN w p xs) := by
  obtain ⟨o, es, ep, h1, h2, h3, h4, _, _⟩ := hd
  refine ⟨⟨hp, o, es, ep, h1, h2, h3, ?_⟩, ⟨o, h1⟩, fun h1 h2 ⟨a, o, es, ep, x1, x2, x3, x4⟩ k => ⟨a, o, es, ep, k o x1, x2, x3, x4⟩⟩
  rw [h4]
  unfold xsH
  rw [List.map_map]
  rfl
end
section
variable {X : Cx}
/-- {}, to be a dict of this kind -/
def tDNewN (w : World) : TE := fun _ H Q => ∀ p, H p = none → Q (.ref p) (upd H p (dN w p []))
theorem pe_dnewN {pos : Pos} : PE X (.Dict [] [] pos) (tDNewN X.w) := ⟨fun pins s σ H Q I h =>
  wpAny_Dict_empty ⟨.ref s.heap.objs.size, _, I.laid (a := s.heap.objs.size) (o := dN X.w s.heap.objs.size []) (t' := s.toks) (fun _ _ q => Heap.get?_push_of_some _ q) (Nat.le_refl _)
    (dN_ok (P := X.prog) (beq_eq_false_iff_ne.mpr (Nat.ne_of_gt I.big)) (Heap.DictOfH.new s.heap)), rfl, h _ (I.hok.fresh (Nat.le_refl _))⟩⟩
def rSetN (w : World) : TSet := fun o i v H Q => ∃ (p q : Addr) (xs : List (List Top × Addr)) (t : List Top), o = .ref p ∧ i = .ref q ∧ v = .bl true ∧ H p = some (dN w p xs) ∧ (∀ x ∈ xs, TopsP H x.1 (.ref x.2)) ∧ (xs.map (·.1)).Nodup ∧ TopsP H t (.ref q) ∧ xs.length ≤ 10000 ∧ Q (upd H p (dN w p (putN xs t q)))
theorem set_dictN (hu : X.A.units + 64 < cLine) : PSet X (rSetN X.w) := by
  intro pins s σ H o i v ov iv u Q I ro ri rv h
  obtain ⟨p, q, xs, t, rfl, rfl, rfl, hp, hk, nd, ht, hl, hq⟩ := h
  cases ro
  cases ri
  cases rv
  obtain ⟨hs, hd⟩ := dN_of I hp hk nd
  have hroom : (nestedKind X.prog X.w).room X.A.in1 := by
    show X.A.in1.units + 8 < cLine
    have : X.A.in1.units = X.A.units + 1 := rfl
    omega
  refine wpAny_setItem_heap (hsz := by
    unfold xsH
    rw [List.length_map]
    exact sz_of (by omega)) hroom (nested_of I ht) hd fun h' hd' hs' => ?_
  rw [putH] at hd'
  refine ⟨_, d_write I (by rw [hp]; exact True.intro) hs' ?_ (dN_ok hs hd'), hq⟩
  obtain ⟨o, es, ep, h1, _⟩ := hd'
  exact ⟨o, h1⟩
def rLenN (w : World) : List V → Hp → VK → Prop := fun vs H Q => ∃ (p : Addr) (xs : List (List Top × Addr)), vs = [.ref p] ∧ H p = some (dN w p xs) ∧ (∀ x ∈ xs, TopsP H x.1 (.ref x.2)) ∧ (xs.map (·.1)).Nodup ∧ xs.length ≤ 10000 ∧ Q (.int (xs.length : Nat)) H
theorem call_lenN : CallR X (.builtin "len") (rLenN X.w) := by
  intro pins s σ H xs us Q I r h
  obtain ⟨p, xs, rfl, hp, hk, nd, hl, q⟩ := h
  obtain ⟨u, rfl, rx⟩ := vals1 r
  obtain rfl : u = .ref p := rx
  obtain ⟨hs, hd⟩ := dN_of I hp hk nd
  have el : (xsH xs).length = xs.length := List.length_map ..
  refine call_len_dictH hs hd (by rw [el]; omega) ?_
  rw [el]
  exact ⟨.int (xs.length : Nat), H, I.tok _, ⟨_, rfl⟩, q⟩
end
end K8
/-! Words for the walk of the law itself. -/
namespace K8
open PySem PySem.Spec PyProof.Rows L2 Evl
theorem TopsOk.weak {n : Nat} {m m' : Int} {tops : List Top} (T : TopsOk n m tops) (h : m ≤ m') : TopsOk n m' tops := ⟨T.ne, T.asc, fun t ht => ⟨(T.at_ t ht).1, (T.at_ t ht).2.1, by have := (T.at_ t ht).2.2; omega⟩⟩
def topM (tops : List Top) : Int := lmax (tops.map fun t => t.2)
theorem TopsOk.most {n : Nat} {m : Int} {tops : List Top} (T : TopsOk n m tops) : TopsOk n (topM tops) tops ∧ 0 ≤ topM tops ∧ topM tops ≤ m := by
  have hne : tops.map (fun t => t.2) ≠ [] := fun z => T.ne (List.map_eq_nil_iff.mp z)
  obtain ⟨t, ht, e⟩ := List.mem_map.mp (lmax_mem hne)
  have h := T.at_ t ht
  have e' : t.2 = topM tops := e
  refine ⟨⟨T.ne, T.asc, fun u hu => ⟨(T.at_ u hu).1, (T.at_ u hu).2.1, le_lmax (List.mem_map.mpr ⟨u, hu, rfl⟩)⟩⟩, by omega, by omega⟩
/-! the pairs that touch, by places -/
def clF (D : Tab) (tops : List Top) (i : Nat) : List (Nat × Nat) := ((tops.drop (i + 1)).filter (touch D (tops.getD i (0, 0)))).map fun u => ((tops.getD i (0, 0)).1, u.1)
theorem clF_all (D : Tab) : ∀ tops : List Top, (List.range tops.length).flatMap (clF D tops) = clashes D tops
  | [] => rfl
  | t :: r => by
    rw [List.length_cons, List.range_succ_eq_map, List.flatMap_cons, List.flatMap_map]
    have e : (List.range r.length).flatMap (fun i => clF D (t :: r) (i + 1)) = (List.range r.length).flatMap (clF D r) := rfl
    show clF D (t :: r) 0 ++ (List.range r.length).flatMap (fun i => clF D (t :: r) (i + 1)) = _
    rw [e, clF_all D r]
    rfl
theorem range_flat_succ {β : Type} (f : Nat → List β) (i : Nat) : (List.range (i + 1)).flatMap f = (List.range i).flatMap f ++ f i := by
  rw [List.range_succ, List.flatMap_append]
  simp
/-! like data -/
section
variable {H : Hp} {x y : V}
theorem alk_int (i : Int) : Alk H 2 (.int i) (.int i) := Alk.flat (.inr ⟨i, rfl, rfl⟩) 2
theorem alk_non : Alk H 2 .non .non := Alk.flat (.inl ⟨rfl, rfl⟩) 2
theorem pr_ints (m : Nat) : ∀ l : List Int, Paired (Alk H m) (l.map V.int) (l.map V.int)
  | [] => .nil
  | a :: l => .cons (Alk.flat (.inr ⟨a, rfl, rfl⟩) m) (pr_ints m l)
theorem alk_ints {l : List Int} (h1 : IntsT H l x) (h2 : IntsT H l y) (hl : l.length ≤ 100) : Alk H 2 x y := by
  obtain ⟨a, rfl, ha⟩ := h1
  obtain ⟨b, rfl, hb⟩ := h2
  exact .inr ⟨a, b, _, _, rfl, rfl, .inl ha, .inl hb, by rw [List.length_map]; exact hl, pr_ints 1 l⟩
theorem alk_nats {l : List Nat} (h1 : NatsT H l x) (h2 : NatsT H l y) (hl : l.length ≤ 100) : Alk H 2 x y := by
  obtain ⟨a, rfl, ha⟩ := h1
  obtain ⟨b, rfl, hb⟩ := h2
  refine alk_ints (l := l.map fun p : Nat => (p : Int)) ⟨a, rfl, ?_⟩ ⟨b, rfl, ?_⟩ (by rw [List.length_map]; exact hl)
  · rw [ha, List.map_map]
    rfl
  · rw [hb, List.map_map]
    rfl
theorem alk_pl {z : Nat × Nat} (h1 : PlP H z x) (h2 : PlP H z y) : Alk H 2 x y := by
  obtain ⟨a, rfl, ha⟩ := h1
  obtain ⟨b, rfl, hb⟩ := h2
  exact alk_ints (l := [(z.1 : Int), (z.2 : Int)]) ⟨a, rfl, ha⟩ ⟨b, rfl, hb⟩ (by show 2 ≤ 100; omega)
theorem alk_opt {α : Type} {P : Hp → α → V → Prop} {o : Option α} (h1 : OptP P H o x) (h2 : OptP P H o y) (k : ∀ a, o = some a → P H a x → P H a y → Alk H 2 x y) : Alk H 2 x y := by
  cases o with
  | none =>
    have e1 : x = .non := h1
    have e2 : y = .non := h2
    rw [e1, e2]
    exact alk_non
  | some a => exact k a rfl h1 h2
theorem alk_pair1 {t : Top} (h1 : PairP H t x) (h2 : PairP H t y) : Alk H 1 x y := by
  obtain ⟨a, rfl, ha⟩ := h1
  obtain ⟨b, rfl, hb⟩ := h2
  exact .inr ⟨a, b, _, _, rfl, rfl, .inl ha, .inl hb, by show 2 ≤ 100; omega, pr_ints 0 [(t.1 : Int), t.2]⟩
theorem alk_pairs : ∀ {tops : List Top} {ws us : List V}, Paired (PairP H) tops ws → Paired (PairP H) tops us → Paired (Alk H 1) ws us
  | _, _, _, .nil, .nil => .nil
  | _, _, _, .cons a r, .cons b s => .cons (alk_pair1 a b) (alk_pairs r s)
theorem alk_tops {tops : List Top} (h1 : TupOf PairP H tops x) (h2 : TupOf PairP H tops y) (hl : tops.length ≤ 100) : Alk H 2 x y := by
  obtain ⟨a, ws, rfl, ha, hw⟩ := h1
  obtain ⟨b, us, rfl, hb, hu⟩ := h2
  exact .inr ⟨a, b, ws, us, rfl, rfl, .inl ha, .inl hb, by rw [← pr_len hw]; exact hl, alk_pairs hw hu⟩
end
/-! lists of rows -/
theorem dpa_rows {K : PySem.W.Frag} {H : Hp} : ∀ {L : List (List Int)} {ws : List V}, Paired (IntsT H) L ws → DpAll K H ws (L.map fun r => PyData.tuple (r.map PyData.int))
  | _, _, .nil => .nil
  | _, _, .cons ⟨p, e, h⟩ t => by
    rw [e]
    exact .cons (.tup (st_of h) (dpa_ints _)) (dpa_rows t)
theorem lay_ints : ∀ l : List Int, PyData.canLayAll0 (l.map PyData.int) = true
  | [] => rfl
  | a :: l => by
    rw [List.map_cons, PyData.canLayAll0, lay_ints l]
    rfl
theorem depth_ints : ∀ l : List Int, PyData.depthAll (l.map PyData.int) = 0
  | [] => rfl
  | a :: l => by
    rw [List.map_cons, PyData.depthAll, depth_ints l]
    rfl
theorem shaped_rows (L : List (List Int)) : SeqAt.shaped (.list (L.map fun r => PyData.tuple (r.map PyData.int))) = true := by
  have h1 : ∀ L : List (List Int), PyData.canLayAll0 (L.map fun r => PyData.tuple (r.map PyData.int)) = true := fun L => by
    induction L with
    | nil => rfl
    | cons r L ih =>
      rw [List.map_cons, PyData.canLayAll0, ih, PyData.canLay0, lay_ints]
      rfl
  have h2 : ∀ L : List (List Int), PyData.depthAll (L.map fun r => PyData.tuple (r.map PyData.int)) ≤ 1 := fun L => by
    induction L with
    | nil => exact Nat.zero_le _
    | cons r L ih =>
      rw [List.map_cons, PyData.depthAll, PyData.depth, depth_ints]
      exact Nat.max_le.mpr ⟨Nat.le_refl _, ih⟩
  unfold SeqAt.shaped
  rw [Bool.and_eq_true]
  refine ⟨h1 L, decide_eq_true ?_⟩
  rw [PyData.depth]
  have := h2 L
  omega
theorem shaped_pl (L : List (Nat × Nat)) : SeqAt.shaped (.list (L.map fun z => PyData.tuple [.int (z.1 : Nat), .int (z.2 : Nat)])) = true := by
  have := shaped_rows (L.map fun z => [(z.1 : Int), (z.2 : Int)])
  rw [List.map_map] at this
  exact this
theorem dpa_pl {K : PySem.W.Frag} {H : Hp} : ∀ {L : List (Nat × Nat)} {ws : List V}, Paired (PlP H) L ws → DpAll K H ws (L.map fun z => PyData.tuple [.int (z.1 : Nat), .int (z.2 : Nat)])
  | _, _, .nil => .nil
  | _, _, .cons ⟨p, e, h⟩ t => by
    rw [e]
    exact .cons (.tup (st_of h) (.cons (.int _) (.cons (.int _) .nil))) (dpa_pl t)
section
variable {K : PySem.W.Frag} {σ : L2.St} {H : Hp} {ta tb te t1 t2 : TE} {tt : TT} {D : Ends} {tu tz : TS} {g : TG} {i j : Nat} {Q : VK} {w : World}
/-- d == [], d != [] of data as they are known -/
theorem ne_nil {p : Addr} {xs : List V} {ds : List PyData} (ha : Ev ta σ H (.ref p)) (hp : ∀ H1, Ex H H1 → SqL K H1 p xs ∧ DpAll K H1 xs ds) (hs : SeqAt.shaped (.list ds) = true) : Ev (tOp (rNeD K) ta (tLst tNil)) σ H (.bl (!decide (ds = []))) := by
  refine ev_opL ha (el_lst ea_nil (by show 0 ≤ 100000; omega)) fun q H1 hq e => fun H2 e2 Q k => ?_
  obtain ⟨h1, h2⟩ := hp H2 (e.trans e2)
  refine ⟨.list ds, .list [], .lst h1 h2, .lst (sq_of (e2 _ _ hq)) .nil, hs, by rfl, ?_⟩
  have : PyData.eqv (.list ds) (.list []) = decide (ds = []) := eqv_nil ds
  rw [this]
  exact k H2 (Ex.refl _)
theorem eq_nil {p : Addr} {xs : List V} {ds : List PyData} (ha : Ev ta σ H (.ref p)) (hp : ∀ H1, Ex H H1 → SqL K H1 p xs ∧ DpAll K H1 xs ds) (hs : SeqAt.shaped (.list ds) = true) : Ev (tOp (rEqD K) ta (tLst tNil)) σ H (.bl (decide (ds = []))) := by
  refine ev_opL ha (el_lst ea_nil (by show 0 ≤ 100000; omega)) fun q H1 hq e => fun H2 e2 Q k => ?_
  obtain ⟨h1, h2⟩ := hp H2 (e.trans e2)
  refine ⟨.list ds, .list [], .lst h1 h2, .lst (sq_of (e2 _ _ hq)) .nil, hs, by rfl, ?_⟩
  have : PyData.eqv (.list ds) (.list []) = decide (ds = []) := eqv_nil ds
  rw [this]
  exact k H2 (Ex.refl _)
theorem for_callL {sp : Sp} {us : List V} {E : XK} {tA : TA} (ha : EvA tA σ H us) (h : ∀ H1, Ex H H1 → sp (us ++ []) H1 (fun v H2 => tFor (iList K (tC v)) g tu D σ H2) E) : tFor (iList K (tCall sp [] E tA)) g tu D σ H := ha H (Ex.refl _) _ h
theorem q_for_callL {sp : Sp} {us : List V} {E : XK} {tA : TA} (ha : EvA tA σ H us) (h : ∀ H1, Ex H H1 → sp (us ++ []) H1 (fun v H2 => tSeq (tFor (iList K (tC v)) g tu) tz D σ H2) E) : tSeq (tFor (iList K (tCall sp [] E tA)) g tu) tz D σ H := ha H (Ex.refl _) _ h
/-- the tops of a row -/
theorem evp_topsOf {n : Nat} {B : Tab} {h : List Int} {far hv' : V} {i8 i22 i4 : Nat} {E : XK} (hf : TabP n H B far) (hh : IntsT H h hv') (hl : h.length = n) (hn : n ≤ 100) (v4 : σ[i4]? = some (some far)) (v8 : σ[i8]? = some (some hv'))
    (hwp : ∀ x, wipe ((wipe σ [i22]).set i22 (some x)) [i22] = wipe σ [i22]) (hx : ∀ x, ((wipe σ [i22]).set i22 (some x))[i22]? = some (some x)) (h8 : ∀ x, ((wipe σ [i22]).set i22 (some x))[i8]? = some (some hv')) :
    EvP (tCB (fun vs H Q => ∃ p ys, vs = [.ref p] ∧ ((SqL K H p ys ∧ ∀ l, H l = none → Q (.ref l) (upd H l (.tup ys))) ∨ (SqT K H p ys ∧ Q (.ref p) H))) (tCons (tLc (iList K (tCall spLit [] E (tCons (tVar i4) (tCons (tVar i8) tNil)))) (gName i22) tYes (tTup (tCons (tVar i22) (tCons (tOp (rIxT K) (tVar i8) (tVar i22)) tNil))) [i22]) tNil)) σ H fun H1 v => TopsP H1 (topsOf B h) v := fun H1 e Q q => by
  obtain ⟨r, rfl, hr⟩ := hh
  refine raw_cb (lc_callL (us := [far, .ref r]) (ea_cons (ev_var v4) (ea_cons (ev_var v8) ea_nil)) fun H2 e2 => ⟨far, .ref r, n, B, h, rfl, hf.mono (e.trans e2), ⟨r, rfl, (e.trans e2) _ _ hr⟩, hl, hn, fun H3 p e3 hp => ?_⟩)
  have e13 := (e.trans e2).trans e3
  have hlen : (lit B h).length ≤ 100 := by
    have a := List.length_filter_le (fun q => decide (over B h q = [])) (List.range h.length)
    rw [List.length_range] at a
    unfold lit
    omega
  have hcomp := els_nats (H := H3) (l := lit B h) (σ := σ) (i := i22) (vs := [i22]) (walks_list (K := K) (te := tC (.ref p)) ev_c (sq_of hp)) (by omega) hwp (fun _ => true) (fun p => HO.tup [.int (p : Nat), .int (hv h p)]) (tt := tYes) (te := tTup (tCons (tVar i22) (tCons (tOp (rIxT K) (tVar i8) (tVar i22)) tNil))) (fun _ _ _ _ => et_yes)
    (fun p hp H7 e7 _ => evN_of_U (eu_tup (ea_cons (ev_var (hx _)) (ea_cons (ev_op (ev_var (h8 _)) (ev_var (hx _)) (rv_ixT (st_of (e7 _ _ (e13 _ _ hr))) (at_of (hv_at (mem_lit.mp hp).1)))) ea_nil)) (by show 2 ≤ 100000; omega)))
  rw [filter_all] at hcomp
  refine hcomp H3 (Ex.refl _) _ fun l ys H4 hl4 e4 h4 hn4 => ⟨l, ys, rfl, .inl ⟨sq_of h4, fun o ho => ?_⟩⟩
  have e5 : Ex H4 (upd H4 o (.tup ys)) := Ex.new ho
  refine q _ _ (((e2.trans e3).trans e4).trans e5) ⟨o, ys, rfl, .inl upd_same, pr_mono (fun _ _ => PairP.mono e5) (new_pairs (ts := topsOf B h) (H1 := H3) ?_)⟩
  unfold topsOf
  rw [List.map_map]
  exact hn4
/-- _law_alike of like values -/
theorem ev_alike {P1 P2 : Hp → V → Prop} {E : XK} (h1 : EvP t1 σ H P1) (h2 : EvP t2 σ H P2) (al : ∀ H1 H2 x y, Ex H H1 → Ex H1 H2 → P1 H1 x → P2 H2 y → Alk H2 2 x y) : Ev (tCall (spAlike 2) [] E (tCons t1 (tCons t2 tNil))) σ H (.bl true) := fun H1 e Q q =>
  h1 H1 e _ fun x H2 e2 hx => h2 H2 (e.trans e2) _ fun y H3 e3 hy => ⟨x, y, rfl, al H2 H3 x y (e.trans e2) e3 hx hy, fun H4 e4 => q H4 ((e2.trans e3).trans e4)⟩
/-- the row, or None -/
theorem q_tryRow {C : Addr} {tA : TA} {n : Nat} {rods : List Rod} {tops : List Top} {v t : V} {gi : Int} (ha : EvA tA σ H [v, t, .int gi]) (g0 : 0 ≤ gi) (g1 : gi ≤ 1) (p : Pre H n rods tops v t) (kn : Known H t) (gE : PySem.W.exmOne K (.ref C) (.ref C) = some true)
    (k : ∀ H' y, Ex H H' → OptP IntsT H' (rowW n (fw n rods) tops gi) y → tz D (σ.set i (some y)) H') :
    tSeq (fun D σ H => (fun W => tAsg (tCallS (spRow C) (WE W) tA) (gName i)) (wOnly K (.ref C) (fun _ _ _ => tAsg (tC .non) (gName i)) (fun _ _ _ _ => False) D) D σ H) tz D σ H :=
  ha H (Ex.refl _) _ fun H1 e1 => ⟨v, t, n, rods, tops, gi, rfl, g0, g1, p.mono e1, kn.mono e1, fun hn H2 e2 => ⟨true, gE, fun _ a ha => k H2 .non (e1.trans e2) (by rw [hn]; rfl), fun q => nomatch q⟩, fun r hr H2 y e2 hy => k H2 y (e1.trans e2) (by rw [hr]; exact hy)⟩
/-- tuple(xs), xs a list that is known -/
theorem evp_tupList {p : Addr} {xs : List V} (ha : Ev ta σ H (.ref p)) (hp : H p = some (.lst xs)) : EvP (tCB (fun vs H Q => ∃ p ys, vs = [.ref p] ∧ ((SqL K H p ys ∧ ∀ l, H l = none → Q (.ref l) (upd H l (.tup ys))) ∨ (SqT K H p ys ∧ Q (.ref p) H))) (tCons ta tNil)) σ H fun H1 v => ∃ q, v = .ref q ∧ H1 q = some (.tup xs) := fun H1 e Q q =>
  ha H1 e _ fun H2 e2 => ⟨p, xs, rfl, .inl ⟨sq_of ((e.trans e2) _ _ hp), fun l hl => q _ _ (e2.trans (Ex.new hl)) ⟨l, rfl, upd_same⟩⟩⟩
theorem els_if {b : Bool} {os : List HO} (h : EvT tt σ H b) (h1 : b = true → EvLs ta σ H os) (h2 : b = false → EvLs tb σ H os) : EvLs (tIf tt ta tb) σ H os := fun H1 e Q q => h H1 e _ fun H2 e2 => by
  cases b with
  | true => exact h1 rfl H2 (e.trans e2) Q fun p ys H3 hp e3 h3 hn => q p ys H3 (fresh_back e2 hp) (e2.trans e3) h3 (pr_mono (fun _ _ ⟨q, a, b, c⟩ => ⟨q, a, fresh_back e2 b, c⟩) hn)
  | false => exact h2 rfl H2 (e.trans e2) Q fun p ys H3 hp e3 h3 hn => q p ys H3 (fresh_back e2 hp) (e2.trans e3) h3 (pr_mono (fun _ _ ⟨q, a, b, c⟩ => ⟨q, a, fresh_back e2 b, c⟩) hn)
theorem els_none : EvLs (tLst tNil) σ H [] := fun H1 e Q q => ⟨by show 0 ≤ sizeLine; decide, fun l hl => q l [] _ hl (Ex.new hl) upd_same .nil⟩
/-- [a, b, c, d][many - 1] -/
theorem ev_lit4 {n : Nat} {a b c d : Int} (n1 : 1 ≤ n) (n4 : n ≤ 4) (hi : Ev ta σ H (.int (n : Nat))) : Ev (tOp (rIxL K) (tLst (tCons (tC (.int a)) (tCons (tC (.int b)) (tCons (tC (.int c)) (tCons (tC (.int d)) tNil))))) (tOp (rI0 fun i j => .int (i - j)) ta (tC (.int 1)))) σ H (.int ([a, b, c, d].getD (n - 1) 0)) := by
  refine ev_opL1 (el_lst (ea_cons ev_c (ea_cons ev_c (ea_cons ev_c (ea_cons ev_c ea_nil)))) (by show 4 ≤ 100000; omega)) (fun H1 e => (ev_sub (hi.mono e) ev_c)) fun p H1 hp e => rv_ixL (sq_of hp) ?_
  rw [show ((n : Nat) : Int) - 1 = ((n - 1 : Nat) : Int) by omega]
  refine at_of ?_
  match n, n1, n4 with
  | 1, _, _ => rfl
  | 2, _, _ => rfl
  | 3, _, _ => rfl
  | 4, _, _ => rfl
theorem lit4_le {n : Nat} {a b c d lo hi : Int} (n1 : 1 ≤ n) (n4 : n ≤ 4) (h : ∀ x ∈ [a, b, c, d], lo ≤ x ∧ x ≤ hi) : lo ≤ [a, b, c, d].getD (n - 1) 0 ∧ [a, b, c, d].getD (n - 1) 0 ≤ hi := by
  match n, n1, n4 with
  | 1, _, _ => exact h a (by simp)
  | 2, _, _ => exact h b (by simp)
  | 3, _, _ => exact h c (by simp)
  | 4, _, _ => exact h d (by simp)
/-- the first or the last of a list of known data -/
theorem end_at {α : Type} {P : α → V → Prop} {L : List α} {ds : List V} (hp : Paired P L ds) (hne : L ≠ []) : (∃ a y, L.head? = some a ∧ atI ds 0 = some y ∧ P a y) ∧ ∃ a y, L.getLast? = some a ∧ atI ds (-1) = some y ∧ P a y := by
  have hl := pr_len hp
  have h0 : 0 < L.length := List.length_pos_iff.mpr hne
  refine ⟨?_, ?_⟩
  · obtain ⟨y, hy, h⟩ := pr_at hp (i := 0) (List.getElem?_eq_getElem h0)
    exact ⟨L[0], y, by rw [List.head?_eq_getElem?, List.getElem?_eq_getElem h0], at_of (j := 0) hy, h⟩
  · obtain ⟨y, hy, h⟩ := pr_at hp (i := L.length - 1) (List.getElem?_eq_getElem (by omega))
    refine ⟨_, y, by rw [List.getLast?_eq_getElem?, List.getElem?_eq_getElem (by omega)], ?_, h⟩
    have hd : ds ≠ [] := fun z => by
      rw [z] at hl
      simp only [List.length_nil] at hl
      omega
    have e := List.dropLast_concat_getLast hd
    have e2 : ds.getLast hd = y := by
      rw [List.getLast_eq_getElem]
      rw [hl, List.getElem?_eq_getElem (by omega)] at hy
      exact Option.some.inj hy
    rw [← e, e2]
    exact atI_last _ _
end
end K8
/-! the law -/
namespace K8
open PySem PySem.Spec PyProof.Rows L2 Evl
section
variable {σ : L2.St} {H : Hp} {ta : TA} {Q : VK}
theorem call_raw2 {sp : Sp} {dvs : List V} {E : XK} (h : ta σ H fun vs H1 => sp (vs ++ dvs) H1 Q E) : tCall sp dvs E ta σ H Q := h
theorem raw_c {v : V} (h : Q v H) : tC v σ H Q := h
end
theorem rows_ne (n : Nat) {m : Int} (h : 0 ≤ m) : rowsL n m ≠ [] := fun z => by
  have : List.replicate n (0 : Int) ∈ rowsL n m := mem_prodL.mpr ⟨List.length_replicate, fun p hp => by
    have e : hv (List.replicate n (0 : Int)) p = 0 := by
      unfold hv
      rw [List.getD_eq_getElem?_getD, List.getElem?_replicate, if_pos hp]
      rfl
    rw [e]
    exact mem_rangeI.mpr (by omega)⟩
  rw [z] at this
  cases this
theorem intsT_upd {H : Hp} {l : Addr} {ys zs : List V} {r : List Int} {v : V} (h : H l = some (.lst ys)) : IntsT H r v → IntsT (upd H l (.lst zs)) r v := fun ⟨p, e, hp⟩ => ⟨p, e, by
  rw [upd_ne fun z => by
    rw [z, h] at hp
    cases hp]
  exact hp⟩
theorem plP_upd {H : Hp} {l : Addr} {ys zs : List V} {r : Nat × Nat} {v : V} (h : H l = some (.lst ys)) : PlP H r v → PlP (upd H l (.lst zs)) r v := fun ⟨p, e, hp⟩ => ⟨p, e, by
  rw [upd_ne fun z => by
    rw [z, h] at hp
    cases hp]
  exact hp⟩
theorem PlP.mono {H H' : Hp} {t : Nat × Nat} {v : V} (e : Ex H H') : PlP H t v → PlP H' t v := fun ⟨p, a, b⟩ => ⟨p, a, e _ _ b⟩
theorem opt_mono {α : Type} {P : Hp → α → V → Prop} {H H' : Hp} {o : Option α} {v : V} (h : ∀ a v, P H a v → P H' a v) : OptP P H o v → OptP P H' o v := fun x => by
  cases o with
  | none => exact x
  | some a => exact h a v x
theorem rowW_len {n : Nat} {D : Tab} {tops : List Top} {e : Int} {r : List Int} (h : rowW n D tops e = some r) : r.length = n := by
  unfold rowW at h
  split at h
  · cases h
    rw [List.length_map, List.length_range]
  · cases h
theorem cut_from {ws : List V} {i : Nat} (hi : i < ws.length) : cutV ws (some ((i : Nat) + 1 : Int)) none = ws.drop (i + 1) := by
  unfold cutV
  rw [show ((i : Nat) : Int) + 1 = ((i + 1 : Nat) : Int) by omega, HT.sIx_nat, HT.sIx_none, show min (i + 1) ws.length = i + 1 by omega]
  exact List.take_of_length_le (by rw [List.length_drop]; omega)
theorem filter_step {α : Type} (f : α → Bool) {l : List α} {j : Nat} {x : α} (h : l[j]? = some x) : (l.take (j + 1)).filter f = (l.take j).filter f ++ (if f x = true then [x] else []) := by
  rw [List.take_add_one, h, List.filter_append]
  congr 1
  show List.filter _ [x] = _
  rw [List.filter_cons]
  rfl
theorem clF_len (D : Tab) (tops : List Top) (i : Nat) : (clF D tops i).length ≤ tops.length := by
  unfold clF
  rw [List.length_map]
  have a := List.length_filter_le (touch D (tops.getD i (0, 0))) (tops.drop (i + 1))
  rw [List.length_drop] at a
  omega
def optI : Option Int → V
  | none => .non
  | some x => .int x
theorem optI_non (o : Option Int) : decide (optI o = .non) = decide (o = none) := by
  cases o with
  | none => rfl
  | some x => rfl
theorem topsP_upd {H : Hp} {d : Addr} {w : World} {xs : List (List Top × Addr)} {o : HO} {t : List Top} {v : V} (h : H d = some (dN w d xs)) : TopsP H t v → TopsP (upd H d o) t v := fun ⟨p, ws, e, hp, hw⟩ => ⟨p, ws, e, (by
  have c : p ≠ d := fun z => by
    rw [z] at hp
    rcases hp with hp | ⟨u, hp⟩
    · rw [h] at hp
      cases hp
    · rw [h] at hp
      cases hp
  rcases hp with hp | ⟨u, hp⟩
  · exact .inl ((upd_ne c).trans hp)
  · exact .inr ⟨u, (upd_ne c).trans hp⟩), pr_mono (fun _ _ ⟨q, e, hq⟩ => ⟨q, e, (by
  rw [upd_ne fun z => by
    rw [z, h] at hq
    cases hq]
  exact hq)⟩) hw⟩
section
variable {K : PySem.W.Frag} {σ : L2.St} {H : Hp} {te to ti : TE} {g : TG} {D : Ends} {v : V} {ts : TSet} {Q : L2.St → Hp → Prop}
theorem asg_raw (h : te σ H fun x H1 => g x σ H1 D.nx) : tAsg te g D σ H := h
theorem gsub_raw (h : to σ H fun o H1 => ti σ H1 fun i H2 => ts o i v H2 fun H3 => Q σ H3) : gSub to ti ts v σ H Q := h
end
section
variable {K : PySem.W.Frag} {σ : L2.St} {H : Hp} {te : TE} {tt : TT} {i j : Nat} {vs : List Nat}
theorem el_pairsW {wi : TI} {ws : List V} {tops : List Top} (hW : Walks wi σ H ws) (hw : Paired (PairP H) tops ws) (hz : tops.length ≤ 40000) (hwp : ∀ a b, wipe (((wipe σ vs).set i (some a)).set j (some b)) vs = wipe σ vs) (f : Top → Bool) (v : Top → V)
    (ht : ∀ t ∈ tops, ∀ H1, Ex H H1 → EvT tt (((wipe σ vs).set i (some (.int (t.1 : Nat)))).set j (some (.int t.2))) H1 (f t)) (he : ∀ t ∈ tops, ∀ H1, Ex H H1 → f t = true → Ev te (((wipe σ vs).set i (some (.int (t.1 : Nat)))).set j (some (.int t.2))) H1 (v t)) :
    EvL (tLc wi (gTup K 2 (gCons (gName i) (gCons (gName j) gNil))) tt te vs) σ H ((tops.filter f).map v) := by
  have hl := pr_len hw
  have h := el_lcW hW (by omega) (g := gTup K 2 (gCons (gName i) (gCons (gName j) gNil))) (vs := vs) (t := tt) (te := te) (fun k y => ((wipe σ vs).set i (some (.int ((tops.getD k (0, 0)).1 : Nat)))).set j (some (.int (tops.getD k (0, 0)).2)))
    (fun k y H1 e hy Q qq => by
      obtain ⟨t, r, ht, rfl, hr⟩ := top_at hw hy
      refine g_two (e _ _ hr) ?_
      rw [pair_getD ht] at qq
      exact qq) (fun _ _ _ => hwp _ _) (fun k => f (tops.getD k (0, 0))) (fun k => v (tops.getD k (0, 0)))
    (fun k y H1 e hy => by
      obtain ⟨t, r, ht', rfl, hr⟩ := top_at hw hy
      simp only [pair_getD ht']
      exact ht t (List.mem_of_getElem? ht') H1 e)
    (fun k y H1 e hy hf => by
      obtain ⟨t, r, ht', rfl, hr⟩ := top_at hw hy
      simp only [pair_getD ht'] at hf ⊢
      exact he t (List.mem_of_getElem? ht') H1 e hf)
  unfold given at h
  rw [← hl, range_filter_get (0, 0) f v] at h
  exact h
end
section
variable {P : Program} {w : World} {K : PySem.W.Frag} {mg : Str → Option Value} {base : Heap} {C : Addr}
theorem sc_law : FnScope ["_law_script", "_law_row", "_law_net_here", "_law_many", "_law_far_here", "_law_told", "_law_most", "_law_due", "_law_heights_here", "_law_end", "_law_found", "_law_pairs", "_law_at", "_law_one", "_law_height", "_law_rest", "_law_opened", "_law_lift", "_law_more", "_law_raised", "_law_left", "_law_kept", "_law_place", "_law_over", "_law_limit", "_law_lists", "_law_level"] ["_law_script"] (defScope (topS 41)) := ⟨rfl, rfl, rfl, by decide +kernel, rfl, by decide +kernel, by decide +kernel⟩
def spLaw (K : PySem.W.Frag) : Sp := fun vs H Q _ => ∃ (a : Addr) (ns : List Int), vs = [.ref a] ∧ SqL K H a (ns.map V.int) ∧ ns.length ≤ 63 ∧ ∀ H', Q (.bl true) H'
theorem ok_law {fL : Addr} {fdL : FuncData} (F0 : Fun K "law" "law" (topS 41) fL fdL) (G : Glob mg) (N1 : NoRowT K mg C) (c_law_taken : Ca P w K mg base 1 "_law_taken" (spTaken K)) (c_law_net : Ca P w K mg base 2 "_law_net" (spLawNet K)) (c_law_pick : Ca P w K mg base 2 "_law_pick" (spPick K)) (c_law_far : Ca P w K mg base 1 "_law_far" spFar)
    (c_law_lit : Ca P w K mg base 1 "_law_lit" spLit) (c_law_rows : Ca P w K mg base 1 "_law_rows" spRows) (c_law_tops : Ca P w K mg base 3 "_law_tops" (spLawTops K)) (c_law_alike : Ca P w K mg base 4 "_law_alike" (spAlike 2))
    (c_number_with_tops : Ca P w K mg base 5 "number_with_tops" spNumber) (c_row : CaX P w K mg base 5 "row_with_tops" (spRow C)) (c_tops_clash : Ca P w K mg base 5 "tops_clash" spTopsClash) (c_open_places : Ca P w K mg base 5 "open_places" spOpen)
    (c_lifted : Ca P w K mg base 5 "lifted" spLifted) (c_settled : Ca P w K mg base 5 "settled" spSettled) (c_number_of_top_lists : Ca P w K mg base 4 "number_of_top_lists" spLists) : FnOk P w K mg base CX0 6 fL fdL ["_law_script"] (spLaw K) := by
  obtain ⟨fR, fdR, psR, FR, gR, kR, bR⟩ := c_row.ex
  refine F0.ok sc_law (fun vs H Q E h => ?_) (fun cdv A outer s H vs Q E hr h => ?_)
  · obtain ⟨a, ns, rfl, _⟩ := h
    rfl
  · obtain ⟨a, ns, rfl, hS, hlen, k⟩ := h
    refine ⟨_, (pss_cons (ps_set (i := 1) sc_law.nd rfl (Or.inl rfl) (pe_lst (pa_cons (pv 0) (pa_cons pe_int (pa_cons pe_int (pa_cons pe_int pa_nil))))))
      (pss_cons (ps_set (i := 2) sc_law.nd rfl (Or.inl rfl) (C8.pe_c c_law_net hr (by decide) rfl (pa_cons (pv 1) (pa_cons pe_int (pa_cons (C8.pe_c c_law_pick hr (by decide) rfl (pa_cons (pv 1) (pa_cons (pe_lst (pa_cons pe_int (pa_cons pe_int (pa_cons pe_int pa_nil)))) pa_nil))) pa_nil)))))
      (pss_cons (ps_asg (pe_tup (pa_cons (pe_ix ix_tup (pv 2) pe_int (fun _ _ => rfl)) (pa_cons (C8.pe_c c_law_far hr (by decide) rfl (pa_cons (pv 2) pa_nil)) pa_nil))) (pg_tup rfl (pgs_cons (pg_name (i := 3) sc_law.nd rfl (Or.inl rfl)) (pgs_cons (pg_name (i := 4) sc_law.nd rfl (Or.inr rfl)) pgs_nil))))
      (pss_cons (ps_set (i := 5) sc_law.nd rfl (Or.inr rfl) (C8.pe_c c_law_tops hr (by decide) rfl (pa_cons (pv 1) (pa_cons (pv 2) (pa_cons (pe_ix ix_list (pe_lst (pa_cons pe_int (pa_cons pe_int (pa_cons pe_int (pa_cons pe_int pa_nil))))) (pe_op op_sub (pv 3) pe_int) (fun _ _ => rfl)) pa_nil)))))
      (pss_cons (ps_set (i := 6) sc_law.nd rfl (Or.inl rfl) (pe_callB (cr_max rfl) (by rfl) G.max_ (by decide +kernel) (pa_cons (pe_lc (own := [("_law_place", 22), ("_law_height", 14)]) (g := (gTup K 2 (gCons (gName 22) (gCons (gName 14) gNil)))) (tt := tYes) rfl sc_law.nd (pi_tup (pv 5)) (blkOk_by (own := [("_law_place", 22), ("_law_height", 14)]) (N := ["_law_script", "_law_row", "_law_net_here", "_law_many", "_law_far_here", "_law_told", "_law_most", "_law_due", "_law_heights_here", "_law_end", "_law_found", "_law_pairs", "_law_at", "_law_one", "_law_height", "_law_rest", "_law_opened", "_law_lift", "_law_more", "_law_raised", "_law_left", "_law_kept", "_law_place", "_law_over", "_law_limit", "_law_lists", "_law_level"]) (sc := (defScope (topS 41))) (by decide +kernel)) (fun _ _ _ _ _ => (pg_tup rfl (pgs_cons (pg_name (i := 22) sc_law.nd rfl (Or.inl rfl)) (pgs_cons (pg_name (i := 14) sc_law.nd rfl (Or.inl rfl)) pgs_nil)))) (fun _ _ _ _ _ => pts_nil) (fun _ _ _ _ _ => (pv 14))) pa_nil)))
      (pss_cons (ps_set (i := 7) sc_law.nd rfl (Or.inl rfl) (pe_lst pa_nil))
      (pss_cons (ps_for PassesOwn.never rfl (pi_list (C8.pe_c c_law_rows hr (by decide) rfl (pa_cons (pv 3) (pa_cons (pv 6) pa_nil)))) (pg_name (i := 8) sc_law.nd rfl (Or.inr rfl)) (pss_one (ps_if (pt_cmpR (op_eqD hr.units) (pe_callTy call_tuple_of (by rfl) G.tuple_ (by decide +kernel) (pa_cons (pe_lc (own := [("_law_place", 22)]) (g := (gName 22)) (tt := tYes) rfl sc_law.nd (pi_list (C8.pe_c c_law_lit hr (by decide) rfl (pa_cons (pv 4) (pa_cons (pv 8) pa_nil)))) (blkOk_by (own := [("_law_place", 22)]) (N := ["_law_script", "_law_row", "_law_net_here", "_law_many", "_law_far_here", "_law_told", "_law_most", "_law_due", "_law_heights_here", "_law_end", "_law_found", "_law_pairs", "_law_at", "_law_one", "_law_height", "_law_rest", "_law_opened", "_law_lift", "_law_more", "_law_raised", "_law_left", "_law_kept", "_law_place", "_law_over", "_law_limit", "_law_lists", "_law_level"]) (sc := (defScope (topS 41))) (by decide +kernel)) (fun _ _ _ _ _ => (pg_name (i := 22) sc_law.nd rfl (Or.inl rfl))) (fun _ _ _ _ _ => pts_nil) (fun _ _ _ _ _ => (pe_tup (pa_cons (pv 22) (pa_cons (pe_ix (ix_tupK K) (pv 8) (pv 22) (fun _ _ => rfl)) pa_nil))))) pa_nil)) (pv 5) (nomark _)) (pss_one (ps_expr (pe_bm PySem.F.plainAttrs_list PySem.F.slot_list_append PySem.F.type_list_append mt_append (pv 7) (pa_cons (pv 8) pa_nil)))) pss_nil)))
      (pss_cons (ps_if (pt_not (pt_val (C8.pe_c c_law_alike hr (by decide) rfl (pa_cons (C8.pe_c c_number_with_tops hr (by decide) rfl (pa_cons (pv 2) (pa_cons (pv 5) pa_nil))) (pa_cons (pe_callB call_len_seq (by rfl) G.len_ (by decide +kernel) (pa_cons (pv 7) pa_nil)) pa_nil))))) (pss_one (ps_ret pe_bl)) pss_nil)
      (pss_cons (ps_for PassesOwn.never rfl (pi_range1 (by rfl) G.range_ (pa_cons pe_int pa_nil)) (pg_name (i := 9) sc_law.nd rfl (Or.inl rfl)) (pss_cons (ps_set (i := 10) sc_law.nd rfl (Or.inl rfl) pe_non)
      (pss_cons (ps_try_only (tb := fun W => tAsg (tCallS (spRow C) (WE W) (tCons (tVar 2) (tCons (tVar 5) (tCons (tVar 9) tNil)))) (gName 10)) (ts := fun _ _ _ => tAsg (tC .non) (gName 10)) (Wout := fun _ _ _ _ => False) rfl rfl ⟨rfl, by decide, .inl N1.g⟩ takes0 (fun W pn xe tk _ => pss_one (ps_set (i := 10) sc_law.nd rfl (Or.inl rfl) (pe_callS FR (hr.mono (by decide)) rfl gR kR bR (fun σ => passAt tk σ) (pa_cons (pv 2) (pa_cons (pv 5) (pa_cons (pv 9) pa_nil)))))) (fun a oe cls d pn _ _ => pss_one (ps_set (i := 10) sc_law.nd rfl (Or.inl rfl) pe_non)))
      (pss_one (ps_if (pt_not (pt_val (C8.pe_c c_law_alike hr (by decide) rfl (pa_cons (pv 10) (pa_cons (pe_ifExp (pt_cmpR (op_neD hr.units) (pv 7) (pe_lst pa_nil) (nomark _)) (pe_ix ix_list (pv 7) (pe_op op_sub pe_int (pv 9)) (fun _ _ => rfl)) pe_non) pa_nil))))) (pss_one (ps_ret pe_bl)) pss_nil)))))
      (pss_cons (ps_set (i := 11) sc_law.nd rfl (Or.inl rfl) (pe_lst pa_nil))
      (pss_cons (ps_for PassesOwn.never rfl (pi_range1 (by rfl) G.range_ (pa_cons (pe_callB call_len_seq (by rfl) G.len_ (by decide +kernel) (pa_cons (pv 5) pa_nil)) pa_nil)) (pg_name (i := 12) sc_law.nd rfl (Or.inl rfl)) (pss_one (ps_for PassesOwn.never rfl (pi_tup (pe_slice sl_tup (pv 5) (po_some (pe_op op_add (pv 12) pe_int)) po_none)) (pg_tup rfl (pgs_cons (pg_name (i := 13) sc_law.nd rfl (Or.inl rfl)) (pgs_cons (pg_name (i := 14) sc_law.nd rfl (Or.inr rfl)) pgs_nil))) (pss_one (ps_if (pt_cmpR op_ge (pe_callB call_abs (by rfl) G.abs_ (by decide +kernel) (pa_cons (pe_op op_sub (pv 14) (pe_ix ix_tup (pe_ix ix_tup (pv 5) (pv 12) (fun _ _ => rfl)) pe_int (fun _ _ => rfl))) pa_nil)) (pe_ix ix_list (pe_ix ix_list (pv 4) (pe_ix ix_tup (pe_ix ix_tup (pv 5) (pv 12) (fun _ _ => rfl)) pe_int (fun _ _ => rfl)) (fun _ _ => rfl)) (pv 13) (fun _ _ => rfl)) (nomark _)) (pss_one (ps_expr (pe_bm PySem.F.plainAttrs_list PySem.F.slot_list_append PySem.F.type_list_append mt_append (pv 11) (pa_cons (pe_tup (pa_cons (pe_ix ix_tup (pe_ix ix_tup (pv 5) (pv 12) (fun _ _ => rfl)) pe_int (fun _ _ => rfl)) (pa_cons (pv 13) pa_nil))) pa_nil)))) pss_nil)))))
      (pss_cons (ps_if (pt_not (pt_val (C8.pe_c c_law_alike hr (by decide) rfl (pa_cons (C8.pe_c c_tops_clash hr (by decide) rfl (pa_cons (pv 2) (pa_cons (pv 5) pa_nil))) (pa_cons (pe_ifExp (pt_cmpR (op_neD hr.units) (pv 11) (pe_lst pa_nil) (nomark _)) (pe_ix ix_list (pv 11) pe_int (fun _ _ => rfl)) pe_non) pa_nil))))) (pss_one (ps_ret pe_bl)) pss_nil)
      (pss_cons (ps_setLc (own := [("_law_place", 22)]) (g := (gName 22)) (i := 15) rfl sc_law.nd rfl rfl (sw_true rfl rfl rfl (by decide +kernel)) (pi_range1 (by rfl) G.range_ (pa_cons (pv 3) pa_nil)) (blkOk_by (own := [("_law_place", 22)]) (N := ["_law_script", "_law_row", "_law_net_here", "_law_many", "_law_far_here", "_law_told", "_law_most", "_law_due", "_law_heights_here", "_law_end", "_law_found", "_law_pairs", "_law_at", "_law_one", "_law_height", "_law_rest", "_law_opened", "_law_lift", "_law_more", "_law_raised", "_law_left", "_law_kept", "_law_place", "_law_over", "_law_limit", "_law_lists", "_law_level"]) (sc := (defScope (topS 41))) (by decide +kernel)) (fun _ _ _ _ _ => (pg_name (i := 22) sc_law.nd rfl (Or.inl rfl))) (fun _ _ _ _ _ => (pts_one (pt_cmpR (op_notIn_seqK K) (pv 22) (pe_lc (own := [("_law_one", 13), ("_law_height", 14)]) (g := (gTup K 2 (gCons (gName 13) (gCons (gName 14) gNil)))) (tt := tYes) rfl sc_law.nd (pi_tupK K (pv 5)) (blkOk_in (own := [("_law_one", 13), ("_law_height", 14)]) (N := ["_law_script", "_law_row", "_law_net_here", "_law_many", "_law_far_here", "_law_told", "_law_most", "_law_due", "_law_heights_here", "_law_end", "_law_found", "_law_pairs", "_law_at", "_law_one", "_law_height", "_law_rest", "_law_opened", "_law_lift", "_law_more", "_law_raised", "_law_left", "_law_kept", "_law_place", "_law_over", "_law_limit", "_law_lists", "_law_level"]) (sc := (defScope (topS 41))) rfl (by decide +kernel)) (fun _ _ _ _ _ => (pg_tup rfl (pgs_cons (pg_name (i := 13) sc_law.nd rfl (Or.inl rfl)) (pgs_cons (pg_name (i := 14) sc_law.nd rfl (Or.inl rfl)) pgs_nil)))) (fun _ _ _ _ _ => pts_nil) (fun _ _ _ _ _ => (pv 13))) (by rfl)))) (fun _ _ _ _ _ => (pv 22)))
      (pss_cons (ps_setLc (own := [("_law_place", 22)]) (g := (gName 22)) (i := 16) rfl sc_law.nd rfl rfl (sw_true rfl rfl rfl (by decide +kernel)) (pi_list (pv 15)) (blkOk_by (own := [("_law_place", 22)]) (N := ["_law_script", "_law_row", "_law_net_here", "_law_many", "_law_far_here", "_law_told", "_law_most", "_law_due", "_law_heights_here", "_law_end", "_law_found", "_law_pairs", "_law_at", "_law_one", "_law_height", "_law_rest", "_law_opened", "_law_lift", "_law_more", "_law_raised", "_law_left", "_law_kept", "_law_place", "_law_over", "_law_limit", "_law_lists", "_law_level"]) (sc := (defScope (topS 41))) (by decide +kernel)) (fun _ _ _ _ _ => (pg_name (i := 22) sc_law.nd rfl (Or.inr rfl))) (fun _ _ _ _ _ => (pts_one (pt_cmpR op_lt (pe_callB (cr_maxK K rfl) (by rfl) G.max_ (by decide +kernel) (pa_cons (pe_lc (own := [("_law_one", 13), ("_law_height", 14)]) (g := (gTup K 2 (gCons (gName 13) (gCons (gName 14) gNil)))) (tt := tYes) rfl sc_law.nd (pi_tupK K (pv 5)) (blkOk_in (own := [("_law_one", 13), ("_law_height", 14)]) (N := ["_law_script", "_law_row", "_law_net_here", "_law_many", "_law_far_here", "_law_told", "_law_most", "_law_due", "_law_heights_here", "_law_end", "_law_found", "_law_pairs", "_law_at", "_law_one", "_law_height", "_law_rest", "_law_opened", "_law_lift", "_law_more", "_law_raised", "_law_left", "_law_kept", "_law_place", "_law_over", "_law_limit", "_law_lists", "_law_level"]) (sc := (defScope (topS 41))) rfl (by decide +kernel)) (fun _ _ _ _ _ => (pg_tup rfl (pgs_cons (pg_name (i := 13) sc_law.nd rfl (Or.inl rfl)) (pgs_cons (pg_name (i := 14) sc_law.nd rfl (Or.inl rfl)) pgs_nil)))) (fun _ _ _ _ _ => pts_nil) (fun _ _ _ _ _ => (pe_op op_sub (pv 14) (pe_ix (ix_listK K) (pe_ix (ix_listK K) (pv 4) (pv 13) (fun _ _ => rfl)) (pv 22) (fun _ _ => rfl))))) pa_nil)) pe_int (nomark _)))) (fun _ _ _ _ _ => (pv 22)))
      (pss_cons (ps_if (pt_not (pt_val (C8.pe_c c_law_alike hr (by decide) rfl (pa_cons (C8.pe_c c_open_places hr (by decide) rfl (pa_cons (pv 2) (pa_cons (pv 5) pa_nil))) (pa_cons (pe_callTy call_tuple_of (by rfl) G.tuple_ (by decide +kernel) (pa_cons (pv 16) pa_nil)) pa_nil))))) (pss_one (ps_ret pe_bl)) pss_nil)
      (pss_cons (ps_set (i := 17) sc_law.nd rfl (Or.inl rfl) pe_non)
      (pss_cons (ps_for PassesOwn.never rfl (pi_range1 (by rfl) G.range_ (pa_cons pe_int pa_nil)) (pg_name (i := 18) sc_law.nd rfl (Or.inr rfl)) (pss_cons (ps_set (i := 19) sc_law.nd rfl (Or.inr rfl) (pe_lc (own := [("_law_one", 13), ("_law_height", 14)]) (g := (gTup K 2 (gCons (gName 13) (gCons (gName 14) gNil)))) (tt := tYes) rfl sc_law.nd (pi_tup (pv 5)) (blkOk_by (own := [("_law_one", 13), ("_law_height", 14)]) (N := ["_law_script", "_law_row", "_law_net_here", "_law_many", "_law_far_here", "_law_told", "_law_most", "_law_due", "_law_heights_here", "_law_end", "_law_found", "_law_pairs", "_law_at", "_law_one", "_law_height", "_law_rest", "_law_opened", "_law_lift", "_law_more", "_law_raised", "_law_left", "_law_kept", "_law_place", "_law_over", "_law_limit", "_law_lists", "_law_level"]) (sc := (defScope (topS 41))) (by decide +kernel)) (fun _ _ _ _ _ => (pg_tup rfl (pgs_cons (pg_name (i := 13) sc_law.nd rfl (Or.inl rfl)) (pgs_cons (pg_name (i := 14) sc_law.nd rfl (Or.inl rfl)) pgs_nil)))) (fun _ _ _ _ _ => pts_nil) (fun _ _ _ _ _ => (pe_tup (pa_cons (pv 13) (pa_cons (pe_op op_add (pv 14) (pv 18)) pa_nil))))))
      (pss_cons (ps_setLc (own := [("_law_place", 22)]) (g := (gName 22)) (i := 20) rfl sc_law.nd rfl rfl (sw_true rfl rfl rfl (by decide +kernel)) (pi_list (pv 15)) (blkOk_by (own := [("_law_place", 22)]) (N := ["_law_script", "_law_row", "_law_net_here", "_law_many", "_law_far_here", "_law_told", "_law_most", "_law_due", "_law_heights_here", "_law_end", "_law_found", "_law_pairs", "_law_at", "_law_one", "_law_height", "_law_rest", "_law_opened", "_law_lift", "_law_more", "_law_raised", "_law_left", "_law_kept", "_law_place", "_law_over", "_law_limit", "_law_lists", "_law_level"]) (sc := (defScope (topS 41))) (by decide +kernel)) (fun _ _ _ _ _ => (pg_name (i := 22) sc_law.nd rfl (Or.inr rfl))) (fun _ _ _ _ _ => (pts_one (pt_cmpR op_lt (pe_callB (cr_maxK K rfl) (by rfl) G.max_ (by decide +kernel) (pa_cons (pe_lc (own := [("_law_one", 13), ("_law_height", 14)]) (g := (gTup K 2 (gCons (gName 13) (gCons (gName 14) gNil)))) (tt := tYes) rfl sc_law.nd (pi_listK K (pv 19)) (blkOk_in (own := [("_law_one", 13), ("_law_height", 14)]) (N := ["_law_script", "_law_row", "_law_net_here", "_law_many", "_law_far_here", "_law_told", "_law_most", "_law_due", "_law_heights_here", "_law_end", "_law_found", "_law_pairs", "_law_at", "_law_one", "_law_height", "_law_rest", "_law_opened", "_law_lift", "_law_more", "_law_raised", "_law_left", "_law_kept", "_law_place", "_law_over", "_law_limit", "_law_lists", "_law_level"]) (sc := (defScope (topS 41))) rfl (by decide +kernel)) (fun _ _ _ _ _ => (pg_tup rfl (pgs_cons (pg_name (i := 13) sc_law.nd rfl (Or.inl rfl)) (pgs_cons (pg_name (i := 14) sc_law.nd rfl (Or.inl rfl)) pgs_nil)))) (fun _ _ _ _ _ => pts_nil) (fun _ _ _ _ _ => (pe_op op_sub (pv 14) (pe_ix (ix_listK K) (pe_ix (ix_listK K) (pv 4) (pv 13) (fun _ _ => rfl)) (pv 22) (fun _ _ => rfl))))) pa_nil)) pe_int (nomark _)))) (fun _ _ _ _ _ => (pv 22)))
      (pss_one (ps_set (i := 17) sc_law.nd rfl (Or.inl rfl) (pe_ifExp (PW.pt (pw_and (pt_cmpR op_isN (pv 17) pe_non (nomark _)) (pw_and (pt_cmpR (op_eqD hr.units) (pv 20) (pe_lst pa_nil) (nomark _)) (pw_and1 (pt_cmpR (op_eqD hr.units) (pv 11) (pe_lst pa_nil) (nomark _)))))) (pv 18) (pv 17)))))))
      (pss_cons (ps_if (pt_not (pt_val (C8.pe_c c_law_alike hr (by decide) rfl (pa_cons (C8.pe_c c_lifted hr (by decide) rfl (pa_cons (pv 2) (pa_cons (pv 5) pa_nil))) (pa_cons (pv 17) pa_nil))))) (pss_one (ps_ret pe_bl)) pss_nil)
      (pss_cons (ps_set (i := 21) sc_law.nd rfl (Or.inl rfl) (pe_lst pa_nil))
      (pss_cons (ps_for PassesOwn.never rfl (pi_tup (pv 5)) (pg_tup rfl (pgs_cons (pg_name (i := 22) sc_law.nd rfl (Or.inr rfl)) (pgs_cons (pg_name (i := 14) sc_law.nd rfl (Or.inr rfl)) pgs_nil))) (pss_cons (ps_setLc (own := [("_law_one", 13), ("_law_level", 26)]) (g := (gTup K 2 (gCons (gName 13) (gCons (gName 26) gNil)))) (i := 23) rfl sc_law.nd rfl rfl (sw_true rfl rfl rfl (by decide +kernel)) (pi_tup (pv 5)) (blkOk_by (own := [("_law_one", 13), ("_law_level", 26)]) (N := ["_law_script", "_law_row", "_law_net_here", "_law_many", "_law_far_here", "_law_told", "_law_most", "_law_due", "_law_heights_here", "_law_end", "_law_found", "_law_pairs", "_law_at", "_law_one", "_law_height", "_law_rest", "_law_opened", "_law_lift", "_law_more", "_law_raised", "_law_left", "_law_kept", "_law_place", "_law_over", "_law_limit", "_law_lists", "_law_level"]) (sc := (defScope (topS 41))) (by decide +kernel)) (fun _ _ _ _ _ => (pg_tup rfl (pgs_cons (pg_name (i := 13) sc_law.nd rfl (Or.inl rfl)) (pgs_cons (pg_name (i := 26) sc_law.nd rfl (Or.inl rfl)) pgs_nil)))) (fun _ _ _ _ _ => (pts_one (PW.pt (pw_and (pt_cmpR op_ne (pv 13) (pv 22) (nomark _)) (pw_and1 (pt_cmpR op_ge (pe_op op_sub (pv 26) (pe_ix (ix_listK K) (pe_ix (ix_listK K) (pv 4) (pv 13) (fun _ _ => rfl)) (pv 22) (fun _ _ => rfl))) (pv 14) (nomark _))))))) (fun _ _ _ _ _ => (pv 13)))
      (pss_one (ps_set (i := 21) sc_law.nd rfl (Or.inl rfl) (pe_op op_cat (pv 21) (pe_ifExp (pt_cmpR (op_eqD hr.units) (pv 23) (pe_lst pa_nil) (nomark _)) (pe_lst (pa_cons (pe_tup (pa_cons (pv 22) (pa_cons (pv 14) pa_nil))) pa_nil)) (pe_lst pa_nil)))))))
      (pss_cons (ps_if (pt_not (pt_val (C8.pe_c c_law_alike hr (by decide) rfl (pa_cons (C8.pe_c c_settled hr (by decide) rfl (pa_cons (pv 2) (pa_cons (pv 5) pa_nil))) (pa_cons (pe_callTy call_tuple_of (by rfl) G.tuple_ (by decide +kernel) (pa_cons (pv 21) pa_nil)) pa_nil))))) (pss_one (ps_ret pe_bl)) pss_nil)
      (pss_cons (ps_par (i := 24) (j := 25) rfl sc_law.nd rfl rfl (by decide) rfl rfl (pa_cons (C8.pe_c c_law_taken hr (by decide) rfl (pa_cons (pv 1) (pa_cons (pe_ix ix_list (pe_lst (pa_cons pe_int (pa_cons pe_int (pa_cons pe_int (pa_cons pe_int pa_nil))))) (pe_op op_sub (pv 3) pe_int) (fun _ _ => rfl)) pa_nil))) (pa_cons pe_dnewN pa_nil)) (by rfl))
      (pss_cons (ps_for PassesOwn.never rfl (pi_list (C8.pe_c c_law_rows hr (by decide) rfl (pa_cons (pv 3) (pa_cons (pv 24) pa_nil)))) (pg_name (i := 8) sc_law.nd rfl (Or.inr rfl)) (pss_one (ps_asg pe_bl (pg_sub (pv 25) (pe_callTy call_tuple_of (by rfl) G.tuple_ (by decide +kernel) (pa_cons (pe_lc (own := [("_law_place", 22)]) (g := (gName 22)) (tt := tYes) rfl sc_law.nd (pi_list (C8.pe_c c_law_lit hr (by decide) rfl (pa_cons (pv 4) (pa_cons (pv 8) pa_nil)))) (blkOk_by (own := [("_law_place", 22)]) (N := ["_law_script", "_law_row", "_law_net_here", "_law_many", "_law_far_here", "_law_told", "_law_most", "_law_due", "_law_heights_here", "_law_end", "_law_found", "_law_pairs", "_law_at", "_law_one", "_law_height", "_law_rest", "_law_opened", "_law_lift", "_law_more", "_law_raised", "_law_left", "_law_kept", "_law_place", "_law_over", "_law_limit", "_law_lists", "_law_level"]) (sc := (defScope (topS 41))) (by decide +kernel)) (fun _ _ _ _ _ => (pg_name (i := 22) sc_law.nd rfl (Or.inl rfl))) (fun _ _ _ _ _ => pts_nil) (fun _ _ _ _ _ => (pe_tup (pa_cons (pv 22) (pa_cons (pe_ix (ix_tupK K) (pv 8) (pv 22) (fun _ _ => rfl)) pa_nil))))) pa_nil)) (set_dictN hr.units)))))
      (pss_one (ps_ret (C8.pe_c c_law_alike hr (by decide) rfl (pa_cons (C8.pe_c c_number_of_top_lists hr (by decide) rfl (pa_cons (pv 2) (pa_cons (pv 24) pa_nil))) (pa_cons (pe_callB call_lenN (by rfl) G.len_ (by decide +kernel) (pa_cons (pv 25) pa_nil)) pa_nil)))))))))))))))))))))))))))), ?_⟩
    refine q_asgL (el_lst (ea_cons (ev_var rfl) (ea_cons ev_c (ea_cons ev_c (ea_cons ev_c ea_nil)))) (by show 4 ≤ 100000; omega)) fun r H1 hr0 e1 h1 => ?_
    have r1 : RowP K (a, ns) H1 r := ⟨0, 6808, 0, by omega, h1, ex_l e1 hS⟩
    refine q_asg_raw (call_raw2 (raw_cons (raw_var rfl (raw_cons (raw_c (raw_cons (call_raw2 (raw_cons (raw_var rfl (raw_cons ?_)))))))))) 
    refine (el_lst (vs := [.int 1, .int 2, .int 4]) (ea_cons ev_c (ea_cons ev_c (ea_cons ev_c ea_nil))) (by show 3 ≤ 100000; omega)) H1 (Ex.refl _) _ fun t H2 ht e2 h2 => ⟨r, t, (a, ns), [1, 2, 4], rfl, r1.mono e2, h2, by decide, by decide, fun x H3 s3 r3 hx => ?_⟩
    have hx4 : 1 ≤ x ∧ x ≤ 4 := by
      simp only [List.mem_cons, List.not_mem_nil, or_false] at hx
      omega
    refine ⟨r, (a, ns), x, rfl, r3, hx4.1, hx4.2, fun n rods net H4 s4 r4 N hnet => ?_⟩
    obtain ⟨pn, w0, rfl, hn0, htup⟩ := id hnet
    have n1 := N.n1
    have n4 := N.n4
    have M := fw_metric N
    refine q_tup (c_cons (ev_op (ev_var rfl) ev_c (rv_ixT (st_of hn0) (at_of (j := 0) rfl))) fun H5 e5 => raw_cons (call_raw (ea_cons (ev_var rfl) ea_nil) fun H6 e6 => ⟨.ref pn, n, rods, rfl, hnet.mono (e5.trans e6), N, fun H7 far e7 hfar => ⟨by show 2 ≤ sizeLine; decide, fun pt hpt => ?_⟩⟩))
    refine g_two upd_same ?_
    generalize hH8 : upd H7 pt (.tup [.int (n : Nat), far]) = H8
    have e8 : Ex H7 H8 := by rw [← hH8]; exact Ex.new hpt
    have e48 := ((e5.trans e6).trans e7).trans e8
    have lit9 := lit4_le (a := 9) (b := 9) (c := 6) (d := 4) (lo := 0) (hi := 9) n1 n4 (by simp)
    refine q_asg_raw (call_raw (ea_cons (ev_var rfl) (ea_cons (ev_var rfl) (ea_cons (ev_lit4 n1 n4 (ev_var rfl)) ea_nil))) fun H9 e9 => ⟨r, (a, ns), .ref pn, n, rods, _, rfl, r4.mono (e48.trans e9), hnet.mono (e48.trans e9), N, lit9.1, lit9.2, fun HA told tops sA rA T0 htold hknown => ?_⟩)
    have fA : TabP n HA (fw n rods) far := ((hfar.mono e8).mono e9).sub sA
    have nA : NetP HA n rods (.ref pn) := (hnet.mono (e48.trans e9)).sub sA
    generalize [(9 : Int), 9, 6, 4].getD (n - 1) 0 = m9 at T0 lit9
    clear hfar hnet hn0 htup
    obtain ⟨T, tm0, tm9⟩ := T0.most
    have tM : topM tops ≤ 9 := by omega
    have T99 : TopsOk n 99 tops := T.weak (by omega)
    obtain ⟨tq, tws, rfl, htq, htw⟩ := id htold
    have tlen : tops.length ≤ 4 := by
      have := tops_len T
      omega
    have tlt : ∀ t ∈ tops, t.1 < n := fun t ht => (T.at_ t ht).1
    -- most
    have hmax := el_pairs (K := K) (H := HA) (σ := [some (.ref a), some (.ref r), some (.ref pn), some (.int (n : Nat)), some far, some (.ref tq), none, none, none, none, none, none, none, none, none, none, none, none, none, none, none, none, none, none, none, none, none]) (tl := tVar 5) (vs := [22, 14]) (i := 22) (j := 14) (tt := tYes) (te := tVar 14) (ev_var rfl) htq htw (by omega) (fun _ _ => rfl) (fun _ => true) (fun t => V.int t.2) (fun _ _ _ _ => et_yes) (fun _ _ _ _ _ => ev_var rfl)
    rw [filter_all, show (tops.map fun t : Top => V.int t.2) = (tops.map fun t : Top => t.2).map V.int by rw [List.map_map]; rfl] at hmax
    refine q_asg (v := .int (topM tops)) (ev_max hmax (fun z => T.ne (List.map_eq_nil_iff.mp z))) fun HB eB => ?_
    -- due
    refine q_asgL (el_lst ea_nil (by show 0 ≤ 100000; omega)) fun da HC hda eC hC => ?_
    refine q_for_callL (ea_cons (ev_var rfl) (ea_cons (ev_var rfl) ea_nil)) fun HD eD => ⟨n, topM tops, rfl, n4, tm0, tM, fun HE v eE hv => ?_⟩
    obtain ⟨rp, rws, rfl, hrp, hrw⟩ := hv
    have eBE := (eC.trans eD).trans eE
    have rlen : (rowsL n (topM tops)).length ≤ 10000 := by
      have a1 := rows_len n tM
      have a2 : 10 ^ n ≤ 10 ^ 4 := Nat.pow_le_pow_right (by omega) n4
      omega
    -- what stays known
    have stay : ∀ {H' : Hp}, Ex HB H' → TabP n H' (fw n rods) far ∧ Pre H' n rods tops (.ref pn) (.ref tq) ∧ Known H' (.ref tq) ∧ RowP K (a, ns) H' r := fun e => ⟨fA.mono (eB.trans e), ⟨nA.mono (eB.trans e), N, htold.mono (eB.trans e), T99⟩, hknown.mono (eB.trans e), rA.mono (eB.trans e)⟩
    have hdaE : HE da = some (.lst []) := eE _ _ (eD _ _ hC)
    have hrne : rws ≠ [] := fun z => rows_ne n tm0 (by
      have := pr_len hrw
      rw [z] at this
      exact List.length_eq_zero_iff.mp this)
    have hrd : rp ≠ da := fun z => by
      rw [z, hdaE] at hrp
      exact hrne (HO.lst.inj (Option.some.inj hrp)).symm
    refine q_forLn ev_c (sq_of hrp) (fun j σ' H' => (∀ p o, p ≠ da → HE p = some o → H' p = some o) ∧ ∃ ds y8, σ' = [some (.ref a), some (.ref r), some (.ref pn), some (.int (n : Nat)), some far, some (.ref tq), some (.int (topM tops)), some (.ref da), y8, none, none, none, none, none, none, none, none, none, none, none, none, none, none, none, none, none, none] ∧ H' da = some (.lst ds) ∧ Paired (IntsT H') (((rowsL n (topM tops)).take j).filter fun h => decide (topsOf (fw n rods) h = tops)) ds)
      (fun HF eF => ⟨fun p o _ h => eF p o h, [], _, rfl, eF _ _ hdaE, .nil⟩) (fun j σ' H' _ z => sq_of (z.1 _ _ hrd hrp)) ?_ ?_
    · rintro j x σ' H' hx ⟨eb, ds, y8, rfl, hd, hp⟩
      obtain ⟨h, hh, q, rfl, hq⟩ := pr_get hrw hx
      have hq' := eb q _ (fun z => by rw [z, hdaE] at hq; cases hq) hq
      have eH : Ex HB H' := fun p o hpo => eb p o (fun z => by rw [z, hda] at hpo; cases hpo) (eBE p o hpo)
      obtain ⟨f', p', _, _⟩ := stay eH
      have hhl : h.length = n := prodL_len (List.mem_of_getElem? hh)
      have hdl : ds.length ≤ 10000 := by
        rw [← pr_len hp]
        have a1 := List.length_filter_le (fun h => decide (topsOf (fw n rods) h = tops)) ((rowsL n (topM tops)).take j)
        have a2 : ((rowsL n (topM tops)).take j).length ≤ (rowsL n (topM tops)).length := by
          rw [List.length_take]
          omega
        omega
      have step : ((rowsL n (topM tops)).take (j + 1)).filter (fun h => decide (topsOf (fw n rods) h = tops)) = (((rowsL n (topM tops)).take j).filter fun h => decide (topsOf (fw n rods) h = tops)) ++ (if topsOf (fw n rods) h = tops then [h] else []) := by
        rw [List.take_add_one, hh, List.filter_append]
        congr 1
        show List.filter _ [h] = _
        rw [List.filter_cons]
        by_cases c : topsOf (fw n rods) h = tops
        · rw [if_pos (decide_eq_true c), if_pos c]
          rfl
        · rw [if_neg (by rw [decide_eq_false c]; decide), if_neg c]
          rfl
      refine s_when (b := decide (topsOf (fw n rods) h = tops)) (et_test (ev_eqTops (evp_topsOf (i4 := 4) (i8 := 8) (i22 := 22) f' ⟨q, rfl, hq'⟩ hhl (by omega) rfl rfl (fun _ => rfl) (fun _ => rfl) (fun _ => rfl)) (ev_var rfl) p'.tup)) (fun hb H2 e2 => ?_) fun hb H2 e2 => ?_
      · refine s_app (l := da) (xs := ds) (e2 _ _ hd) (ev_var rfl) (ev_var rfl) (by omega) fun H3 e3 => ⟨fun p o hpd hpo => by rw [upd_ne hpd]; exact e3 _ _ (e2 _ _ (eb p o hpd hpo)), ds ++ [.ref q], _, rfl, upd_same, ?_⟩
        have hd3 := e3 _ _ (e2 _ _ hd)
        rw [step, if_pos (of_decide_eq_true hb)]
        exact pr_snoc (pr_mono (fun _ _ z => intsT_upd hd3 (IntsT.mono (e2.trans e3) z)) hp) (intsT_upd hd3 ⟨q, rfl, (e2.trans e3) _ _ hq'⟩)
      · refine ⟨fun p o hpd hpo => e2 _ _ (eb p o hpd hpo), ds, _, rfl, e2 _ _ hd, ?_⟩
        rw [step, if_neg (of_decide_eq_false hb), List.append_nil]
        exact pr_mono (fun _ _ => IntsT.mono e2) hp
    rintro σ' HF ⟨eb, ds, y8, rfl, hds, hpd⟩
    have eF : Ex HB HF := fun p o hpo => eb p o (fun z => by rw [z, hda] at hpo; cases hpo) (eBE p o hpo)
    rw [← pr_len hrw, List.take_length] at hpd
    have hpd : Paired (IntsT HF) (due (fw n rods) n (topM tops) tops) ds := hpd
    clear eb hrne hrd hdaE hrw hrp
    have dlen := number_due M T
    have dhead := row_least M T
    have dlast := row_greatest M T
    generalize due (fw n rods) n (topM tops) tops = L at hpd dlen dhead dlast
    -- the number
    refine q_when (b := false) (et_not (a := true) (et_B (ev_alike (P1 := fun _ x => x = .int (number n (fw n rods) tops)) (P2 := fun _ y => y = .int (L.length : Nat))
      (evp_of (ev_call (ea_cons (ev_var rfl) (ea_cons (ev_var rfl) ea_nil)) fun H2 e Q q E => ⟨.ref pn, .ref tq, n, rods, tops, rfl, (stay (eF.trans e)).2.1, fun H3 e3 => q H3 e3⟩)) (evp_of (ev_is (ev_len2 (ev_var rfl) (.inl (sq_of hds))) (by rw [pr_len hpd])))
      (fun _ _ x y _ _ hx hy => by rw [hx, hy, dlen]; exact alk_int _)))) (fun z => nomatch z) fun _ HG eG => ?_
    -- the two rows
    have row01 : ∀ i : Nat, i < 2 → ∀ H', Ex HF H' → ∀ σ : L2.St, σ[7]? = some (some (.ref da)) → σ[9]? = some (some (.int (i : Nat))) → EvP (tIf (tTest (tOp (rNeD K) (tVar 7) (tLst tNil))) (tOp (rIxL K) (tVar 7) (tOp (rI0 fun i j => .int (i - j)) (tC (.int 0)) (tVar 9))) (tC .non)) σ H' fun H1 y => OptP IntsT H1 (rowW n (fw n rods) tops (i : Int)) y := by
      intro i hi H' e' σ v7 v9
      refine evp_if (b := !decide ((L.map fun r => PyData.tuple (r.map PyData.int)) = [])) (et_test (ne_nil (xs := ds) (ev_var v7) (fun H1 e1 => ⟨sq_of ((e'.trans e1) _ _ hds), dpa_rows (pr_mono (fun _ _ => IntsT.mono (e'.trans e1)) hpd)⟩) (shaped_rows L))) (fun hb => ?_) fun hb => ?_
      · have hne : L ≠ [] := fun z => by
          rw [z] at hb
          cases hb
        obtain ⟨⟨r0, y0, z1, z2, z3⟩, ⟨r1, y1, w1, w2, w3⟩⟩ := end_at hpd hne
        match i, hi, v9 with
        | 0, _, v9 =>
          refine (evp_of (ev_op (ev_var v7) (ev_sub ev_c (ev_var v9)) (rv_ixL (sq_of (e' _ _ hds)) z2))).imp fun H1 v e hv => ?_
          rw [hv]
          have e0 : rowW n (fw n rods) tops ((0 : Nat) : Int) = some r0 := dhead.symm.trans z1
          rw [e0]
          exact z3.mono (e'.trans e)
        | 1, _, v9 =>
          refine (evp_of (ev_op (ev_var v7) (ev_sub ev_c (ev_var v9)) (rv_ixL (sq_of (e' _ _ hds)) w2))).imp fun H1 v e hv => ?_
          rw [hv]
          have e0 : rowW n (fw n rods) tops ((1 : Nat) : Int) = some r1 := dlast.symm.trans w1
          rw [e0]
          exact w3.mono (e'.trans e)
      · have hne : L = [] := by
          cases L with
          | nil => rfl
          | cons _ _ => cases hb
        refine (evp_of ev_c).imp fun H1 v e hv => ?_
        rw [hv]
        have e0 : rowW n (fw n rods) tops (i : Int) = none := by
          match i, hi with
          | 0, _ =>
            rw [hne] at dhead
            exact dhead.symm
          | 1, _ =>
            rw [hne] at dlast
            exact dlast.symm
        rw [e0]
        rfl
    refine q_forR1 (n := 2) (ea_cons ev_c ea_nil) (by omega) (fun i σ' H' => Ex HF H' ∧ ∃ y9 y10, σ' = [some (.ref a), some (.ref r), some (.ref pn), some (.int (n : Nat)), some far, some (.ref tq), some (.int (topM tops)), some (.ref da), y8, y9, y10, none, none, none, none, none, none, none, none, none, none, none, none, none, none, none, none]) (fun HH eH => ⟨eG.trans eH, _, _, rfl⟩) ?_ ?_
    · rintro i σ' HH hi ⟨eH, y9, y10, rfl⟩
      have hi : i < 2 := by omega
      refine q_asg ev_c fun HI eI => ?_
      refine q_tryRow (K := K) (C := C) (i := 10) (gi := (i : Int)) (v := .ref pn) (t := .ref tq) (ea_cons (ev_var rfl) (ea_cons (ev_var rfl) (ea_cons (ev_var rfl) ea_nil))) (by omega) (by omega) (stay ((eF.trans eH).trans eI)).2.1 (stay ((eF.trans eH).trans eI)).2.2.1 N1.e fun HJ y eJ hy => ?_
      have eHJ := (eH.trans eI).trans eJ
      refine s_when (b := false) (et_not (a := true) (et_B (ev_alike (P1 := fun H1 x => OptP IntsT H1 (rowW n (fw n rods) tops (i : Int)) x) ((evp_of (ev_var rfl)).imp fun H1 v e hv => by rw [hv]; exact opt_mono (fun _ _ => IntsT.mono e) hy) (row01 i hi HJ eHJ _ rfl rfl)
        (fun H1 H2 x y e1 e2 hx hy => alk_opt (opt_mono (fun _ _ => IntsT.mono e2) hx) hy fun r hr a b => alk_ints a b (by rw [rowW_len hr]; omega))))) (fun z => nomatch z) fun _ HK eK => ⟨eHJ.trans eK, _, _, rfl⟩
    rintro σ' HH ⟨eH, y9, y10, rfl⟩
    have eFH := eF.trans eH
    have told : ∀ {H' : Hp}, Ex HB H' → Rd H' tq (.tup tws) ∧ Paired (PairP H') tops tws := fun e => ⟨ex_rd (eB.trans e) htq, pr_mono (fun _ _ => PairP.mono (eB.trans e)) htw⟩
    have twl := pr_len htw
    -- the pairs that touch
    refine q_asgL (el_lst ea_nil (by show 0 ≤ 100000; omega)) fun pa HL hpa eL hL => ?_
    refine q_forR1 (n := (tops.length : Nat)) (ea_cons (ev_is (ev_len2 (ev_var rfl) (.inr (.inl (told (eFH.trans eL)).1))) (by rw [twl])) ea_nil) (by omega) (fun i σ' H' => Ex HH H' ∧ ∃ ps y12 y13 y14, σ' = [some (.ref a), some (.ref r), some (.ref pn), some (.int (n : Nat)), some far, some (.ref tq), some (.int (topM tops)), some (.ref da), y8, y9, y10, some (.ref pa), y12, y13, y14, none, none, none, none, none, none, none, none, none, none, none, none] ∧ H' pa = some (.lst ps) ∧ Paired (PlP H') ((List.range i).flatMap (clF (fw n rods) tops)) ps)
      (fun HM eM => ⟨eL.trans eM, [], _, _, _, rfl, eM _ _ hL, .nil⟩) ?_ ?_
    · rintro i σ' HM hi ⟨eM, ps, y12, y13, y14, rfl, hps, hpp⟩
      have hi : i < tops.length := by omega
      obtain ⟨t, hti⟩ : ∃ t, tops[i]? = some t := ⟨_, List.getElem?_eq_getElem hi⟩
      obtain ⟨tb, htb, rt, rfl, hrt0⟩ := pr_at htw hti
      have htm := List.mem_of_getElem? hti
      have hcl : clF (fw n rods) tops i = ((tops.drop (i + 1)).filter (touch (fw n rods) t)).map fun u => (t.1, u.1) := by
        unfold clF
        rw [pair_getD hti]
      have hsl := eu_sl (K := K) (H := HM) (σ := [some (.ref a), some (.ref r), some (.ref pn), some (.int (n : Nat)), some far, some (.ref tq), some (.int (topM tops)), some (.ref da), y8, y9, y10, some (.ref pa), some (.int (i : Nat)), y13, y14, none, none, none, none, none, none, none, none, none, none, none, none]) (te := tVar 5) (tl := tPart (tOp (rI0 fun i j => .int (i + j)) (tVar 12) (tC (.int 1)))) (th := tNoPart) (ev_var rfl) (eo_some (ev_add (ev_var rfl) ev_c)) eo_none (.inl (told (eFH.trans eM)).1) (by
        rw [show ((i : Nat) : Int) + 1 = ((i + 1 : Nat) : Int) by omega, HT.sIx_nat]
        omega)
      rw [cut_from (by omega)] at hsl
      refine s_forNT hsl (fun p j σ' H' => Ex HH H' ∧ H' p = some (.tup (tws.drop (i + 1))) ∧ ∃ ps y13 y14, σ' = [some (.ref a), some (.ref r), some (.ref pn), some (.int (n : Nat)), some far, some (.ref tq), some (.int (topM tops)), some (.ref da), y8, y9, y10, some (.ref pa), some (.int (i : Nat)), y13, y14, none, none, none, none, none, none, none, none, none, none, none, none] ∧ H' pa = some (.lst ps) ∧ Paired (PlP H') ((List.range i).flatMap (clF (fw n rods) tops) ++ (((tops.drop (i + 1)).take j).filter (touch (fw n rods) t)).map fun u => (t.1, u.1)) ps)
        (fun p HN hp eN hN => ⟨eM.trans eN, hN, ps, _, _, rfl, eN _ _ hps, by
          rw [List.take_zero]
          show Paired _ (_ ++ []) _
          rw [List.append_nil]
          exact pr_mono (fun _ _ => PlP.mono eN) hpp⟩) (fun p j σ' H' _ z => st_of z.2.1) ?_ ?_
      · rintro p j x σ' HN hx ⟨eN, hNp, ps, y13, y14, rfl, hps, hpp⟩
        obtain ⟨t2, r2, ht2, rfl, hr2⟩ := top_at (pr_drop (i + 1) htw) hx
        have ht2m := List.mem_of_mem_drop (List.mem_of_getElem? ht2)
        have eBN := eFH.trans eN
        refine g_two (eB.trans eBN _ _ hr2) ?_
        have toldAt : ∀ (H' : Hp) (k : Nat) (v : V) (σ : L2.St), Ex HN H' → σ[5]? = some (some (.ref tq)) → σ[12]? = some (some (.int (i : Nat))) → [V.int (t.1 : Nat), V.int t.2][k]? = some v → Ev (tOp (rIxT K) (tOp (rIxT K) (tVar 5) (tVar 12)) (tC (.int (k : Nat)))) σ H' v := fun H' k v σ e v5 v12 hk =>
          ev_op (ev_op (ev_var v5) (ev_var v12) (rv_ixT (.inl (told (eBN.trans e)).1) (at_of htb))) ev_c (rv_ixT (st_of ((eB.trans (eBN.trans e)) _ _ hrt0)) (at_of hk))
        have hpl : ps.length ≤ 1000 := by
          rw [← pr_len hpp, List.length_append, List.length_map]
          have a1 := flatMap_le (clF (fw n rods) tops) 4 (List.range i) fun a _ => by
            have := clF_len (fw n rods) tops a
            omega
          rw [List.length_range] at a1
          have a2 := List.length_filter_le (touch (fw n rods) t) ((tops.drop (i + 1)).take j)
          have a3 : ((tops.drop (i + 1)).take j).length ≤ tops.length := by
            rw [List.length_take, List.length_drop]
            omega
          omega
        refine s_when (b := touch (fw n rods) t t2) (et_is (et_test (ev_ge (ev_abs (ev_sub (ev_var rfl) (toldAt HN 1 _ _ (Ex.refl _) rfl rfl rfl))) (ev_cell (ev_var rfl) (toldAt HN 0 _ _ (Ex.refl _) rfl rfl rfl) (ev_var rfl) (stay eBN).1 (tlt t htm) (tlt t2 ht2m)))) (by
          unfold touch
          rw [absI_comm])) (fun hyes HO eO => ?_) fun hno HO eO => ⟨eN.trans eO, eO _ _ hNp, ps, _, _, rfl, eO _ _ hps, by
          rw [filter_step _ ht2, if_neg (by rw [hno]; decide), List.append_nil]
          exact pr_mono (fun _ _ => PlP.mono eO) hpp⟩
        refine s_appU (xs := ps) (eO _ _ hps) (ev_var rfl) (eu_tup (ea_cons (toldAt HO 0 _ _ eO rfl rfl rfl) (ea_cons (ev_var rfl) ea_nil)) (by show 2 ≤ 100000; omega)) (by omega) fun o H5 ho e5 h5 => ?_
        have hl5 := e5 _ _ (eO _ _ hps)
        refine ⟨Ex.mut ((eN.trans eO).trans e5) hpa, ?_, _, _, _, rfl, upd_same, ?_⟩
        · rw [upd_ne fun z => by rw [z, hps] at hNp; cases hNp]
          exact e5 _ _ (eO _ _ hNp)
        · rw [filter_step _ ht2, if_pos hyes, List.map_append, ← List.append_assoc]
          exact pr_snoc (pr_mono (fun _ _ z => plP_upd hl5 (PlP.mono (eO.trans e5) z)) hpp) (plP_upd hl5 ⟨o, rfl, h5⟩)
      · rintro p σ' HN ⟨eN, hNp, ps, y13, y14, rfl, hps, hpp⟩
        refine ⟨eN, ps, _, _, _, rfl, hps, ?_⟩
        rw [range_flat_succ, hcl]
        have : (tops.drop (i + 1)).take (tws.drop (i + 1)).length = tops.drop (i + 1) := List.take_of_length_le (by rw [List.length_drop, List.length_drop]; omega)
        rw [this] at hpp
        exact hpp
    rintro σ' HP ⟨eP, ps, y12, y13, y14, rfl, hps, hpp⟩
    rw [show ((tops.length : Nat) : Int).toNat = tops.length by omega, clF_all] at hpp
    have eBP := eFH.trans eP
    refine q_when (b := false) (et_not (a := true) (et_B (ev_alike (P1 := fun H1 x => OptP PlP H1 (clashes (fw n rods) tops).head? x) (P2 := fun H1 y => OptP PlP H1 (clashes (fw n rods) tops).head? y)
      (evp_call (ea_cons (ev_var rfl) (ea_cons (ev_var rfl) ea_nil)) fun H2 e Q q E => ⟨.ref pn, .ref tq, n, rods, tops, rfl, (stay (eBP.trans e)).2.1, fun H3 r e3 hr => q r H3 e3 hr⟩)
      (evp_if (b := !decide (((clashes (fw n rods) tops).map fun z => PyData.tuple [.int (z.1 : Nat), .int (z.2 : Nat)]) = [])) (et_test (ne_nil (xs := ps) (ev_var rfl) (fun H1 e1 => ⟨sq_of (e1 _ _ hps), dpa_pl (pr_mono (fun _ _ => PlP.mono e1) hpp)⟩) (shaped_pl _))) (fun hb => by
        have hne : clashes (fw n rods) tops ≠ [] := fun z => by
          rw [z] at hb
          cases hb
        obtain ⟨⟨r0, y0, z1, z2, z3⟩, _⟩ := end_at hpp hne
        refine (evp_of (ev_op (ev_var rfl) ev_c (rv_ixL (sq_of hps) z2))).imp fun H1 v e hv => ?_
        rw [hv, z1]
        exact z3.mono e) fun hb => by
        have hne : clashes (fw n rods) tops = [] := by
          cases h : clashes (fw n rods) tops with
          | nil => rfl
          | cons _ _ =>
            rw [h] at hb
            cases hb
        refine (evp_of ev_c).imp fun H1 v e hv => ?_
        rw [hv, hne]
        rfl)
      (fun H1 H2 x y e1 e2 hx hy => alk_opt (opt_mono (fun _ _ => PlP.mono e2) hx) hy fun r hr a b => alk_pl a b)))) (fun z => nomatch z) fun _ HQ eQ => ?_
    -- the rest
    have ePQ := eP.trans eQ
    have hrest := el_nats (H := HQ) (l := List.range n) (σ := [some (.ref a), some (.ref r), some (.ref pn), some (.int (n : Nat)), some far, some (.ref tq), some (.int (topM tops)), some (.ref da), y8, y9, y10, some (.ref pa), y12, y13, y14, none, none, none, none, none, none, none, none, none, none, none, none]) (i := 22) (vs := [22]) (walks_rngN (ta := tCons (tVar 3) tNil) (ea_cons (ev_var rfl) ea_nil) (by omega)) (by rw [List.length_range]; omega) (fun _ => rfl) (fun q => !decide (q ∈ places tops)) (fun p => V.int (p : Nat))
      (tt := tTest (tOp (rIn K true) (tVar 22) (tLc (iTup K (tVar 5)) (gTup K 2 (gCons (gName 13) (gCons (gName 14) gNil))) tYes (tVar 13) [13, 14]))) (te := tVar 22)
      (fun q hq H4 e4 => by
        have hpl := el_pairs (K := K) (H := H4) (σ := [some (.ref a), some (.ref r), some (.ref pn), some (.int (n : Nat)), some far, some (.ref tq), some (.int (topM tops)), some (.ref da), y8, y9, y10, some (.ref pa), y12, y13, y14, none, none, none, none, none, none, none, some (.int (q : Nat)), none, none, none, none]) (tl := tVar 5) (vs := [13, 14]) (i := 13) (j := 14) (tt := tYes) (te := tVar 13) (ev_var rfl) (told ((eBP.trans eQ).trans e4)).1 (told ((eBP.trans eQ).trans e4)).2 (by omega) (fun _ _ => rfl) (fun _ => true) (fun t => V.int (t.1 : Nat)) (fun _ _ _ _ => et_yes) (fun _ _ _ _ _ => ev_var rfl)
        rw [filter_all, show (tops.map fun t : Top => V.int (t.1 : Nat)) = (places tops).map fun p : Nat => V.int p by unfold places; rw [List.map_map]; rfl] at hpl
        exact et_test (ev_is (ev_opL (ev_var rfl) hpl fun p H5 hp e5 => rv_niL (sq_of hp) rfl (flat_nat _)) (by rw [inV_nat]))) (fun q _ H4 e4 _ => ev_var rfl)
    refine q_asgL hrest fun ra HR hra eR hR => ?_
    have hR : HR ra = some (.lst ((rest n tops).map fun p : Nat => V.int p)) := hR
    have eBR := (eBP.trans eQ).trans eR
    have rsl := rest_len n tops
    have hopen := el_nats (H := HR) (l := rest n tops) (σ := [some (.ref a), some (.ref r), some (.ref pn), some (.int (n : Nat)), some far, some (.ref tq), some (.int (topM tops)), some (.ref da), y8, y9, y10, some (.ref pa), y12, y13, y14, some (.ref ra), none, none, none, none, none, none, none, none, none, none, none]) (i := 22) (vs := [22]) (walks_list (K := K) (te := tVar 15) (ev_var rfl) (sq_of hR)) (by omega) (fun _ => rfl) (fun q => decide (cov (fw n rods) tops q < 0)) (fun p => V.int (p : Nat))
      (tt := tTest (tOp (rI0 fun i j => .bl (decide (i < j))) (tCB (rMax K) (tCons (tLc (iTup K (tVar 5)) (gTup K 2 (gCons (gName 13) (gCons (gName 14) gNil))) tYes (tOp (rI0 fun i j => .int (i - j)) (tVar 14) (tOp (rIxL K) (tOp (rIxL K) (tVar 4) (tVar 13)) (tVar 22))) [13, 14]) tNil)) (tC (.int 0)))) (te := tVar 22)
      (fun q hq H4 e4 => by
        have hin := el_pairs (K := K) (H := H4) (σ := [some (.ref a), some (.ref r), some (.ref pn), some (.int (n : Nat)), some far, some (.ref tq), some (.int (topM tops)), some (.ref da), y8, y9, y10, some (.ref pa), y12, y13, y14, some (.ref ra), none, none, none, none, none, none, some (.int (q : Nat)), none, none, none, none]) (tl := tVar 5) (vs := [13, 14]) (i := 13) (j := 14) (tt := tYes) (te := tOp (rI0 fun i j => .int (i - j)) (tVar 14) (tOp (rIxL K) (tOp (rIxL K) (tVar 4) (tVar 13)) (tVar 22))) (ev_var rfl) (told (eBR.trans e4)).1 (told (eBR.trans e4)).2 (by omega) (fun _ _ => rfl) (fun _ => true) (fun t => V.int (t.2 - fw n rods t.1 q)) (fun _ _ _ _ => et_yes)
          (fun t ht H5 e5 _ => ev_sub (ev_var rfl) (ev_cell (ev_var rfl) (ev_var rfl) (ev_var rfl) (stay ((eBR.trans e4).trans e5)).1 (tlt t ht) (mem_rest.mp hq).1))
        rw [filter_all, show (tops.map fun t : Top => V.int (t.2 - fw n rods t.1 q)) = (tops.map fun t : Top => t.2 - fw n rods t.1 q).map V.int by rw [List.map_map]; rfl] at hin
        exact et_test (ev_lt (ev_max hin (fun z => T.ne (List.map_eq_nil_iff.mp z))) ev_c)) (fun q _ H4 e4 _ => ev_var rfl)
    refine q_asgL hopen fun oa HS hoa eS hoS => ?_
    have eBS := eBR.trans eS
    refine q_when (b := false) (et_not (a := true) (et_B (ev_alike (P1 := fun H1 x => NatsT H1 (opens n (fw n rods) tops) x) (P2 := fun H1 y => NatsT H1 (opens n (fw n rods) tops) y)
      (evp_call (ea_cons (ev_var rfl) (ea_cons (ev_var rfl) ea_nil)) fun H2 e Q q E => ⟨.ref pn, .ref tq, n, rods, tops, rfl, (stay (eBS.trans e)).2.1, fun H3 r e3 hr => q _ H3 e3 ⟨r, rfl, hr⟩⟩)
      (evp_tupList (ev_var rfl) hoS)
      (fun H1 H2 x y e1 e2 hx hy => alk_nats (by obtain ⟨p, z1, z2⟩ := hx; exact ⟨p, z1, e2 _ _ z2⟩) hy (by
        have a := List.length_filter_le (fun q => decide (cov (fw n rods) tops q < 0)) (rest n tops)
        unfold opens
        omega))))) (fun z => nomatch z) fun _ HT eT => ?_
    -- how far they may be lifted
    have eBT := eBS.trans eT
    have hRT := (eS.trans eT) _ _ hR
    have hpsT := (((eQ.trans eR).trans eS).trans eT) _ _ hps
    have hppT := pr_mono (fun _ _ => PlP.mono (((eQ.trans eR).trans eS).trans eT)) hpp
    refine q_asg ev_c fun HU eU => ?_
    refine q_forR1 (n := 40) (ea_cons ev_c ea_nil) (by omega) (fun i σ' H' => Ex HT H' ∧ ∃ y18 y19 y20, σ' = [some (.ref a), some (.ref r), some (.ref pn), some (.int (n : Nat)), some far, some (.ref tq), some (.int (topM tops)), some (.ref da), y8, y9, y10, some (.ref pa), y12, y13, y14, some (.ref ra), some (.ref oa), some (optI (liftTo n (fw n rods) tops i)), y18, y19, y20, none, none, none, none, none, none]) (fun HV eV => ⟨eU.trans eV, _, _, _, rfl⟩) ?_ ?_
    · rintro i σ' HV hi ⟨eV, y18, y19, y20, rfl⟩
      have eBV := eBT.trans eV
      have hrz := els_pairs (K := K) (H := HV) (σ := [some (.ref a), some (.ref r), some (.ref pn), some (.int (n : Nat)), some far, some (.ref tq), some (.int (topM tops)), some (.ref da), y8, y9, y10, some (.ref pa), y12, y13, y14, some (.ref ra), some (.ref oa), some (optI (liftTo n (fw n rods) tops i)), some (.int (i : Nat)), y19, y20, none, none, none, none, none, none]) (tl := tVar 5) (vs := [13, 14]) (i := 13) (j := 14) (tt := tYes) (te := tTup (tCons (tVar 13) (tCons (tOp (rI0 fun i j => .int (i + j)) (tVar 14) (tVar 18)) tNil))) (ev_var rfl) (told eBV).1 (told eBV).2 (by omega) (fun _ _ => rfl) (fun _ => true) (fun t => HO.tup [.int (t.1 : Nat), .int (t.2 + (i : Int))]) (fun _ _ _ _ => et_yes)
        (fun t _ H1 e1 _ => evN_of_U (eu_tup (ea_cons (ev_var rfl) (ea_cons (ev_add (ev_var rfl) (ev_var rfl)) ea_nil)) (by show 2 ≤ 100000; omega)))
      rw [filter_all] at hrz
      refine q_asgLs hrz fun za zs HW hza eW hW hn => ?_
      have hzp : Paired (PairP HW) (raised tops (i : Int)) zs := new_pairs (H1 := HV) (by
        unfold raised
        rw [List.map_map]
        exact hn)
      have eBW := eBV.trans eW
      have hleft := el_nats (H := HW) (l := rest n tops) (σ := [some (.ref a), some (.ref r), some (.ref pn), some (.int (n : Nat)), some far, some (.ref tq), some (.int (topM tops)), some (.ref da), y8, y9, y10, some (.ref pa), y12, y13, y14, some (.ref ra), some (.ref oa), some (optI (liftTo n (fw n rods) tops i)), some (.int (i : Nat)), some (.ref za), y20, none, none, none, none, none, none]) (i := 22) (vs := [22]) (walks_list (K := K) (te := tVar 15) (ev_var rfl) (sq_of ((eV.trans eW) _ _ hRT))) (by omega) (fun _ => rfl) (fun q => decide (cov (fw n rods) (raised tops (i : Int)) q < 0)) (fun p => V.int (p : Nat))
        (tt := tTest (tOp (rI0 fun i j => .bl (decide (i < j))) (tCB (rMax K) (tCons (tLc (iList K (tVar 19)) (gTup K 2 (gCons (gName 13) (gCons (gName 14) gNil))) tYes (tOp (rI0 fun i j => .int (i - j)) (tVar 14) (tOp (rIxL K) (tOp (rIxL K) (tVar 4) (tVar 13)) (tVar 22))) [13, 14]) tNil)) (tC (.int 0)))) (te := tVar 22)
        (fun q hq H4 e4 => by
          have hin := el_pairsW (K := K) (H := H4) (σ := [some (.ref a), some (.ref r), some (.ref pn), some (.int (n : Nat)), some far, some (.ref tq), some (.int (topM tops)), some (.ref da), y8, y9, y10, some (.ref pa), y12, y13, y14, some (.ref ra), some (.ref oa), some (optI (liftTo n (fw n rods) tops i)), some (.int (i : Nat)), some (.ref za), y20, none, some (.int (q : Nat)), none, none, none, none]) (tt := tYes) (te := tOp (rI0 fun i j => .int (i - j)) (tVar 14) (tOp (rIxL K) (tOp (rIxL K) (tVar 4) (tVar 13)) (tVar 22))) (i := 13) (j := 14) (vs := [13, 14]) (walks_list (K := K) (te := tVar 19) (ev_var rfl) (sq_of (e4 _ _ hW))) (pr_mono (fun _ _ => PairP.mono e4) hzp) (by unfold raised; rw [List.length_map]; omega) (fun _ _ => rfl) (fun _ => true) (fun t => V.int (t.2 - fw n rods t.1 q)) (fun _ _ _ _ => et_yes)
            (fun t ht H5 e5 _ => ev_sub (ev_var rfl) (ev_cell (ev_var rfl) (ev_var rfl) (ev_var rfl) (stay ((eBW.trans e4).trans e5)).1 (by
              obtain ⟨t0, ht0, rfl⟩ := List.mem_map.mp ht
              exact tlt t0 ht0) (mem_rest.mp hq).1))
          rw [filter_all, show ((raised tops (i : Int)).map fun t : Top => V.int (t.2 - fw n rods t.1 q)) = ((raised tops (i : Int)).map fun t : Top => t.2 - fw n rods t.1 q).map V.int by rw [List.map_map]; rfl] at hin
          exact et_test (ev_lt (ev_max hin (fun z => T.ne (List.map_eq_nil_iff.mp (List.map_eq_nil_iff.mp z)))) ev_c)) (fun q _ H4 e4 _ => ev_var rfl)
      refine q_asgL hleft fun la HX hla eX hX => ?_
      have hX : HX la = some (.lst (((left n (fw n rods) tops (i : Int)).map fun p : Nat => (p : Int)).map V.int)) := by
        rw [hX, List.map_map]
        rfl
      have eVX := (eV.trans eW).trans eX
      refine s_asg (v := optI (liftTo n (fw n rods) tops (i + 1))) (ev_if (b := decide (optI (liftTo n (fw n rods) tops i) = .non) && (decide (((left n (fw n rods) tops (i : Int)).map fun p : Nat => (p : Int)) = []) && decide (((clashes (fw n rods) tops).map fun z => PyData.tuple [.int (z.1 : Nat), .int (z.2 : Nat)]) = [])))
        (et_and (et_test (ev_op (ev_var rfl) ev_c (fun H1 _ Q q => ⟨rfl, q H1 (Ex.refl _)⟩))) fun _ => et_and (et_test (el_ints_nil (ev_var rfl) hX)) fun _ => et_test (eq_nil (xs := ps) (ev_var rfl) (fun H1 e1 => ⟨sq_of ((eVX.trans e1) _ _ hpsT), dpa_pl (pr_mono (fun _ _ => PlP.mono (eVX.trans e1)) hppT)⟩) (shaped_pl _))) (fun hb => ?_) fun hb => ?_) fun HY eY => ⟨eVX.trans eY, _, _, _, rfl⟩
      · rw [Bool.and_eq_true, Bool.and_eq_true, optI_non, decide_eq_true_eq, decide_eq_true_eq, decide_eq_true_eq, List.map_eq_nil_iff, List.map_eq_nil_iff] at hb
        refine ev_is (ev_var rfl) ?_
        show V.int (i : Nat) = optI (if _ then _ else _)
        rw [if_pos hb]
        rfl
      · have hb' : ¬ (liftTo n (fw n rods) tops i = none ∧ left n (fw n rods) tops (i : Int) = [] ∧ clashes (fw n rods) tops = []) := fun z => by
          have : (decide (optI (liftTo n (fw n rods) tops i) = .non) && (decide (((left n (fw n rods) tops (i : Int)).map fun p : Nat => (p : Int)) = []) && decide (((clashes (fw n rods) tops).map fun z => PyData.tuple [.int (z.1 : Nat), .int (z.2 : Nat)]) = []))) = true := by
            rw [Bool.and_eq_true, Bool.and_eq_true, optI_non, decide_eq_true_eq, decide_eq_true_eq, decide_eq_true_eq, List.map_eq_nil_iff, List.map_eq_nil_iff]
            exact z
          rw [this] at hb
          cases hb
        refine ev_is (ev_var rfl) ?_
        show optI (liftTo n (fw n rods) tops i) = optI (if _ then _ else _)
        rw [if_neg hb']
    rintro σ' HV ⟨eV, y18, y19, y20, rfl⟩
    have lift40 := liftTo_eq M T
    rw [show (40 : Int).toNat = 40 from rfl, lift40]
    have eBV := eBT.trans eV
    refine q_when (b := false) (et_not (a := true) (et_B (ev_alike (P1 := fun H1 x => OptP IntP H1 (lift n (fw n rods) tops) x) (P2 := fun H1 y => y = optI (lift n (fw n rods) tops))
      (evp_call (ea_cons (ev_var rfl) (ea_cons (ev_var rfl) ea_nil)) fun H2 e Q q E => ⟨.ref pn, .ref tq, n, rods, tops, rfl, (stay (eBV.trans e)).2.1, fun H3 r e3 hr => q _ H3 e3 hr⟩) (evp_of (ev_var rfl))
      (fun H1 H2 x y e1 e2 hx hy => by
        cases hl : lift n (fw n rods) tops with
        | none =>
          rw [hl] at hx hy
          have hx : x = .non := hx
          have hy : y = .non := hy
          rw [hx, hy]
          exact alk_non
        | some z =>
          rw [hl] at hx hy
          have hx : x = .int z := hx
          have hy : y = .int z := hy
          rw [hx, hy]
          exact alk_int z)))) (fun z => nomatch z) fun _ HX eX => ?_
    -- which are kept
    have eBX := eBV.trans eX
    refine q_asgL (el_lst ea_nil (by show 0 ≤ 100000; omega)) fun ka HY hka eY hY => ?_
    have eBY := eBX.trans eY
    refine q_forT (ev_var rfl) (.inl (told eBY).1) (fun i σ' H' => Ex HY H' ∧ ∃ kb ks y14 y22 y23, σ' = [some (.ref a), some (.ref r), some (.ref pn), some (.int (n : Nat)), some far, some (.ref tq), some (.int (topM tops)), some (.ref da), y8, y9, y10, some (.ref pa), y12, y13, y14, some (.ref ra), some (.ref oa), some (optI (lift n (fw n rods) tops)), y18, y19, y20, some (.ref kb), y22, y23, none, none, none] ∧ H' kb = some (.lst ks) ∧ Paired (PairP H') ((tops.take i).filter fun t => decide (overT (fw n rods) tops t = [])) ks)
      (fun HZ eZ => ⟨eZ, ka, [], _, _, _, rfl, eZ _ _ hY, .nil⟩) (fun i σ' H' _ z => .inl (told (eBY.trans z.1)).1) ?_ ?_
    · rintro i x σ' HZ hx ⟨eZ, kb, ks, y14, y22, y23, rfl, hks, hkp⟩
      have eBZ := eBY.trans eZ
      obtain ⟨t, rt, hti, rfl, hrt0⟩ := top_at htw hx
      have htm := List.mem_of_getElem? hti
      refine g_two ((eB.trans eBZ) _ _ hrt0) ?_
      have hov := el_pairs (K := K) (H := HZ) (σ := [some (.ref a), some (.ref r), some (.ref pn), some (.int (n : Nat)), some far, some (.ref tq), some (.int (topM tops)), some (.ref da), y8, y9, y10, some (.ref pa), y12, y13, some (.int t.2), some (.ref ra), some (.ref oa), some (optI (lift n (fw n rods) tops)), y18, y19, y20, some (.ref kb), some (.int (t.1 : Nat)), y23, none, none, none]) (tl := tVar 5) (vs := [13, 26]) (i := 13) (j := 26) (tt := tAnd (tTest (tOp rNe (tVar 13) (tVar 22))) (tTest (tOp (rI0 fun i j => .bl (decide (j ≤ i))) (tOp (rI0 fun i j => .int (i - j)) (tVar 26) (tOp (rIxL K) (tOp (rIxL K) (tVar 4) (tVar 13)) (tVar 22))) (tVar 14)))) (te := tVar 13)
        (ev_var rfl) (told eBZ).1 (told eBZ).2 (by omega) (fun _ _ => rfl) (fun u => decide (u.1 ≠ t.1) && decide (t.2 ≤ u.2 - fw n rods u.1 t.1)) (fun u => V.int (u.1 : Nat))
        (fun u hu H1 e1 => et_and (et_is (et_test (ev_neI (ev_var rfl) (ev_var rfl))) (by
          rw [decide_eq_decide]
          omega)) fun _ => et_test (ev_ge (ev_sub (ev_var rfl) (ev_cell (ev_var rfl) (ev_var rfl) (ev_var rfl) (stay (eBZ.trans e1)).1 (tlt u hu) (tlt t htm))) (ev_var rfl))) (fun u _ H1 e1 _ => ev_var rfl)
      refine q_asgL hov fun va H2 hva e2 h2 => ?_
      have h2 : H2 va = some (.lst (((overT (fw n rods) tops t).map fun u => (u.1 : Int)).map V.int)) := by
        rw [h2, List.map_map]
        rfl
      have hkl : ks.length ≤ 4 := by
        rw [← pr_len hkp]
        have a1 := List.length_filter_le (fun t => decide (overT (fw n rods) tops t = [])) (tops.take i)
        have a2 : (tops.take i).length ≤ tops.length := by
          rw [List.length_take]
          omega
        omega
      have hosl : (if overT (fw n rods) tops t = [] then [HO.tup [V.int (t.1 : Nat), V.int t.2]] else []).length ≤ 1 := by
        split <;> simp
      refine s_catLs (i := 21) (os := if overT (fw n rods) tops t = [] then [HO.tup [V.int (t.1 : Nat), V.int t.2]] else []) rfl (e2 _ _ hks) (els_if (et_test (el_ints_nil (K := K) (ev_var rfl) h2)) (fun hb => by
        have c : overT (fw n rods) tops t = [] := List.map_eq_nil_iff.mp (of_decide_eq_true hb)
        rw [if_pos c]
        exact els_one (evN_of_U (eu_tup (ea_cons (ev_var rfl) (ea_cons (ev_var rfl) ea_nil)) (by show 2 ≤ 100000; omega)))) fun hb => by
        have c : ¬ overT (fw n rods) tops t = [] := fun z => (of_decide_eq_false hb) (List.map_eq_nil_iff.mpr z)
        rw [if_neg c]
        exact els_none) (by omega) fun p zs H3 e3 hn hp => ⟨((eZ.trans e2).trans e3).trans (Ex.new hp), p, _, _, _, _, rfl, upd_same, ?_⟩
      rw [kept_succ hti]
      refine pr_app ?_ (pr_mono (fun _ _ => PairP.mono ((e2.trans e3).trans (Ex.new hp))) hkp)
      by_cases c : overT (fw n rods) tops t = []
      · rw [if_pos c] at hn ⊢
        exact pr_mono (fun _ _ => PairP.mono (Ex.new hp)) (new_pairs (ts := [t]) hn)
      · rw [if_neg c] at hn ⊢
        cases hn
        exact .nil
    rintro σ' HZ ⟨eZ, kb, ks, y14, y22, y23, rfl, hks, hkp⟩
    rw [← twl, List.take_length] at hkp
    have hkp : Paired (PairP HZ) (kept (fw n rods) tops) ks := hkp
    have eBZ := eBY.trans eZ
    refine q_when (b := false) (et_not (a := true) (et_B (ev_alike (P1 := fun H1 x => TupOf PairP H1 (kept (fw n rods) tops) x) (P2 := fun H1 y => ∃ q, y = .ref q ∧ H1 q = some (.tup ks))
      (evp_call (ea_cons (ev_var rfl) (ea_cons (ev_var rfl) ea_nil)) fun H2 e Q q E => ⟨.ref pn, .ref tq, n, rods, tops, rfl, (stay (eBZ.trans e)).2.1, fun H3 r e3 hr => q _ H3 e3 hr⟩) (evp_tupList (ev_var rfl) hks)
      (fun H1 H2 x y e1 e2 hx hy => alk_tops (TupOf.mono (fun _ _ => PairP.mono e2) e2 hx) (by
        obtain ⟨q, z1, z2⟩ := hy
        exact ⟨q, ks, z1, z2, pr_mono (fun _ _ => PairP.mono (e1.trans e2)) hkp⟩) (by
        have a := List.length_filter_le (fun t => decide (overT (fw n rods) tops t = [])) tops
        unfold kept
        omega))))) (fun z => nomatch z) fun _ G0 g0 => ?_
    -- the lists of tops
    have eG0 := eBZ.trans g0
    have lit6 := lit4_le (a := 6) (b := 5) (c := 4) (d := 3) (lo := 1) (hi := 6) n1 n4 (by simp)
    refine q_par (raw_cons (take_raw (stay eG0).2.2.2 rfl (ev_lit4 n1 n4 (ev_var rfl)) (by omega) (by omega) fun m G1 s1 rG1 m0 m1 => raw_cons fun d hd => ⟨_, _, rfl, ?_⟩))
    have fG1 := (stay eG0).1.sub s1
    have nG1 := (stay eG0).2.1.net.sub s1
    have m5 : m ≤ 5 := by omega
    have e12 : Ex G1 (upd G1 d (dN w d [])) := Ex.new hd
    have hd2 : (upd G1 d (dN w d [])) d = some (dN w d []) := upd_same
    refine q_for_callL (ea_cons (ev_var rfl) (ea_cons (ev_var rfl) ea_nil)) fun G3 e23 => ⟨n, m, rfl, n4, m0, by omega, fun G4 v e34 hv => ?_⟩
    obtain ⟨rp, rws, rfl, hrp, hrw⟩ := hv
    have hd4 : G4 d = some (dN w d []) := e34 _ _ (e23 _ _ hd2)
    have hrd : rp ≠ d := fun z => by
      rw [z, hd4] at hrp
      cases hrp
    have e14 := (e12.trans e23).trans e34
    have rlen2 : (rowsL n m).length ≤ 10000 := by
      have a1 := rows_len n (m := m) (by omega)
      have a2 : 10 ^ n ≤ 10 ^ 4 := Nat.pow_le_pow_right (by omega) n4
      omega
    refine q_forLn ev_c (sq_of hrp) (fun j σ' H' => (∀ p o, p ≠ d → G4 p = some o → H' p = some o) ∧ ∃ xs y8, σ' = [some (.ref a), some (.ref r), some (.ref pn), some (.int (n : Nat)), some far, some (.ref tq), some (.int (topM tops)), some (.ref da), y8, y9, y10, some (.ref pa), y12, y13, y14, some (.ref ra), some (.ref oa), some (optI (lift n (fw n rods) tops)), y18, y19, y20, some (.ref kb), y22, y23, some (.int m), some (.ref d), none] ∧ H' d = some (dN w d xs) ∧ (∀ z ∈ xs, TopsP H' z.1 (.ref z.2)) ∧ xs.map (·.1) = keysOf (((rowsL n m).take j).map (topsOf (fw n rods))))
      (fun G5 e5 => ⟨fun p o _ h => e5 p o h, [], _, rfl, e5 _ _ hd4, by simp, rfl⟩) (fun j σ' H' _ z => sq_of (z.1 _ _ hrd hrp)) ?_ ?_
    · rintro j x σ' G5 hx ⟨eb, xs, y8, rfl, hdx, hxs, hkeys⟩
      obtain ⟨h, hh, q, rfl, hq⟩ := pr_get hrw hx
      have hq' := eb q _ (fun z => by rw [z, hd4] at hq; cases hq) hq
      have eH : Ex G1 G5 := fun p o hpo => eb p o (fun z => by rw [z, hd] at hpo; cases hpo) (e14 p o hpo)
      have hhl : h.length = n := prodL_len (List.mem_of_getElem? hh)
      have hxl : xs.length ≤ 10000 := by
        have a1 := congrArg List.length hkeys
        rw [List.length_map] at a1
        have a2 := keysOf_len (((rowsL n m).take j).map (topsOf (fw n rods)))
        rw [List.length_map, List.length_take] at a2
        omega
      refine asg_raw (raw_c (gsub_raw (raw_var rfl ?_)))
      refine evp_topsOf (K := K) (i4 := 4) (i8 := 8) (i22 := 22) (fG1.mono eH) ⟨q, rfl, hq'⟩ hhl (by omega) rfl rfl (fun _ => rfl) (fun _ => rfl) (fun _ => rfl) G5 (Ex.refl _) _ fun v G6 e6 hv => ?_
      obtain ⟨kq, kws, rfl, hkq⟩ := id hv
      have hd6 := e6 _ _ hdx
      refine ⟨d, kq, xs, topsOf (fw n rods) h, rfl, rfl, rfl, hd6, fun z hz => (hxs z hz).mono e6, by rw [hkeys]; exact keysOf_nodup _, hv, hxl, fun p o hpd hpo => by rw [upd_ne hpd]; exact e6 _ _ (eb p o hpd hpo), putN xs (topsOf (fw n rods) h) kq, _, rfl, upd_same, fun z hz => ?_, ?_⟩
      · have old : ∀ z ∈ xs, TopsP (upd G6 d (dN w d (putN xs (topsOf (fw n rods) h) kq))) z.1 (.ref z.2) := fun z hz => topsP_upd hd6 ((hxs z hz).mono e6)
        unfold putN at hz
        split at hz
        · exact old z hz
        · rcases List.mem_append.mp hz with hz | hz
          · exact old z hz
          · rw [List.mem_singleton.mp hz]
            exact topsP_upd hd6 hv
      · rw [putN_keys, hkeys, ← keysOf_snoc, List.take_add_one, hh, List.map_append]
        rfl
    rintro σ' G5 ⟨eb, xs, y8, rfl, hdx, hxs, hkeys⟩
    rw [← pr_len hrw, List.take_length] at hkeys
    have eH : Ex G1 G5 := fun p o hpo => eb p o (fun z => by rw [z, hd] at hpo; cases hpo) (e14 p o hpo)
    have hxl : xs.length = nLists n (fw n rods) m := by
      rw [lists_eq M n1, ← hkeys, List.length_map]
    have hxl2 : xs.length ≤ 10000 := by
      have a1 := congrArg List.length hkeys
      rw [List.length_map] at a1
      have a2 := keysOf_len ((rowsL n m).map (topsOf (fw n rods)))
      rw [List.length_map] at a2
      omega
    refine s_ret (v := .bl true) (ev_alike (P1 := fun _ x => x = .int (nLists n (fw n rods) m : Nat)) (P2 := fun _ y => y = .int (xs.length : Nat))
      (evp_of (ev_call (ea_cons (ev_var rfl) (ea_cons (ev_var rfl) ea_nil)) fun H2 e Q q E => ⟨.ref pn, n, rods, m, rfl, nG1.mono (eH.trans e), N, m0, m5, fun H3 e3 => q H3 e3⟩))
      (evp_of (fun G6 e6 Q q => raw_cb (raw_var rfl ⟨d, xs, rfl, e6 _ _ hdx, fun z hz => (hxs z hz).mono e6, by rw [hkeys]; exact keysOf_nodup _, hxl2, q G6 (Ex.refl _)⟩)))
      (fun _ _ x y _ _ hx hy => by rw [hx, hy, hxl]; exact alk_int _)) fun G6 e6 => k G6
end
end K8
/-! what the top has written; the law's head -/
namespace K8
open PySem PySem.Spec PyProof.Rows L2 Evl
/-- an error of the class at S is what «except S» names -/
theorem exm_same {K : PySem.W.Frag} {S : Addr} (h1 : PySem.W.subIn K (.ref S) (.type "BaseException") = some true) (h2 : PySem.W.isClsIn K S = true) (h3 : PySem.W.typeIn K (.ref S) = some (.type "type")) (h4 : PySem.W.subIn K (.ref S) (.ref S) = some true) :
    PySem.W.exmOne K (.ref S) (.ref S) = some true := by
  have a1 : (PySem.W.subIn K (.ref S) (.type "BaseException") == some true) = true := by
    rw [h1]
    rfl
  have a2 : ((PySem.W.clsIn K S).isSome && PySem.W.typeIn K (.ref S) == some (.type "type")) = true := by
    have b : (PySem.W.clsIn K S).isSome = true := h2
    rw [b, h3]
    rfl
  show (if (PySem.W.subIn K (.ref S) (.type "BaseException") == some true) = true then (if ((PySem.W.clsIn K S).isSome && PySem.W.typeIn K (.ref S) == some (.type "type")) = true then PySem.W.subIn K (.ref S) (.ref S) else none) else none) = some true
  rw [if_pos a1, if_pos a2, h4]
/-- where a def stands in what the top has written -/
structure DR (K : PySem.W.Frag) (x : Str) (st : Stmt) : Prop where
  ex : ∃ (f : Addr) (oc : Value) (od : Option Addr) (kV dc pm : Value) (an : Option Addr) (cd ct : Value) (sl : Array (Option Value)), PySem.W.nsIn K mainGlobals x = some (some (.ref f)) ∧
    K.lookup f = some ⟨oc, od, .func (PySem.W.fnOf x x (defArgs st) (defBody st) (defScope st) .none kV dc pm an cd ct), sl⟩ ∧ PySem.W.codeIn K cd x = true ∧ PySem.W.keepIn K (.ref f) = true
theorem DR.mk4 {K : PySem.W.Frag} {x : Str} {st : Stmt} {f : Addr} {oc : Value} {od an : Option Addr} {kV dc pm cd ct : Value} {sl : Array (Option Value)} (a : PySem.W.nsIn K mainGlobals x = some (some (.ref f)))
    (l : K.lookup f = some ⟨oc, od, .func (PySem.W.fnOf x x (defArgs st) (defBody st) (defScope st) .none kV dc pm an cd ct), sl⟩) (c : PySem.W.codeIn K cd x = true) (k : PySem.W.keepIn K (.ref f) = true) : DR K x st := ⟨_, _, _, _, _, _, _, _, _, _, a, l, c, k⟩
theorem DR.dv {K : PySem.W.Frag} {h : Heap} {mg : Str → Option Value} {x : Str} {st : Stmt} (R : DR K x st) (X : K.In h) (G : h.Ns mainGlobals mg) (ps : List Str)
    (hb : ∀ (kV doc pm : Value) (an : Option Addr) (cdv ct : Value) (us : List Value), us.length = ps.length → bindArgs (PySem.W.fnOf x x (defArgs st) (defBody st) (defScope st) .none kV doc pm an cdv ct) ⟨us, []⟩ = pure (ps.zip us)) : Dv K mg x st ps := by
  obtain ⟨f, oc, od, kV, dc, pm, an, cd, ct, sl, a, l, c, k⟩ := R.ex
  have F := fun_mk l c k
  exact ⟨f, _, F, PySem.W.mg_of X G a, F.binds hb⟩
/-- the class NoRow, as the top has written it -/
structure NR (K : PySem.W.Frag) (C : Addr) : Prop where
  a : PySem.W.nsIn K mainGlobals "NoRow" = some (some (.ref C))
  x : PySem.W.excIn K C [.type "ValueError", .type "Exception", .type "BaseException", .type "object"] "ValueError.__new__" = true
  k : PySem.W.keepIn K (.ref C) = true
  b : PySem.W.subIn K (.ref C) (.type "BaseException") = some true
  t : PySem.W.typeIn K (.ref C) = some (.type "type")
  i : PySem.W.isClsIn K C = true
  s : PySem.W.subIn K (.ref C) (.ref C) = some true
structure ZR (K : PySem.W.Frag) : Prop where
  z_len : PySem.W.nsIn K mainGlobals "len" = some none
  z_abs : PySem.W.nsIn K mainGlobals "abs" = some none
  z_max : PySem.W.nsIn K mainGlobals "max" = some none
  z_min : PySem.W.nsIn K mainGlobals "min" = some none
  z_any : PySem.W.nsIn K mainGlobals "any" = some none
  z_all : PySem.W.nsIn K mainGlobals "all" = some none
  z_sorted : PySem.W.nsIn K mainGlobals "sorted" = some none
  z_tuple : PySem.W.nsIn K mainGlobals "tuple" = some none
  z_list : PySem.W.nsIn K mainGlobals "list" = some none
  z_int : PySem.W.nsIn K mainGlobals "int" = some none
  z_bool : PySem.W.nsIn K mainGlobals "bool" = some none
  z_str : PySem.W.nsIn K mainGlobals "str" = some none
  z_dict : PySem.W.nsIn K mainGlobals "dict" = some none
  z_isinstance : PySem.W.nsIn K mainGlobals "isinstance" = some none
  z_range : PySem.W.nsIn K mainGlobals "range" = some none
  z_enumerate : PySem.W.nsIn K mainGlobals "enumerate" = some none
structure KR (K : PySem.W.Frag) : Prop where
  MOST_PLACES : ∃ t, PySem.W.nsIn K mainGlobals "MOST_PLACES" = some (some (.int 8 t))
  MOST_LENGTH : ∃ t, PySem.W.nsIn K mainGlobals "MOST_LENGTH" = some (some (.int 9 t))
  MOST_LISTS : ∃ t, PySem.W.nsIn K mainGlobals "MOST_LISTS" = some (some (.int 20000 t))
theorem KR.mk3 {K : PySem.W.Frag} {v0 v1 v2 : Value} (a0 : PySem.W.nsIn K mainGlobals "MOST_PLACES" = some (some v0)) (a1 : PySem.W.nsIn K mainGlobals "MOST_LENGTH" = some (some v1)) (a2 : PySem.W.nsIn K mainGlobals "MOST_LISTS" = some (some v2))
    (b0 : ∃ t, v0 = .int 8 t) (b1 : ∃ t, v1 = .int 9 t) (b2 : ∃ t, v2 = .int 20000 t) : KR K := by
  obtain ⟨t0, rfl⟩ := b0
  obtain ⟨t1, rfl⟩ := b1
  obtain ⟨t2, rfl⟩ := b2
  exact ⟨⟨t0, a0⟩, ⟨t1, a1⟩, ⟨t2, a2⟩⟩
theorem all_mk {P : Program} {w : World} {K : PySem.W.Frag} {h : Heap} {mg : Str → Option Value} {fa f C : Addr} (X : K.In h) (G : h.Ns mainGlobals mg) (hfa : mg "law" = some (.ref fa))
    (r_whole : DR K "whole" (topS 10))
    (r_within : DR K "within" (topS 11))
    (r_need_number : DR K "need_number" (topS 12))
    (r_tuple_of : DR K "tuple_of" (topS 13))
    (r_is_rod : DR K "is_rod" (topS 14))
    (r_need_net : DR K "need_net" (topS 15))
    (r_table_of : DR K "table_of" (topS 17))
    (r_need_tops : DR K "need_tops" (topS 20))
    (r_covers_of : DR K "covers_of" (topS 21))
    (r_clash_of : DR K "clash_of" (topS 22))
    (r_tops_clash : DR K "tops_clash" (topS 23))
    (r_open_places : DR K "open_places" (topS 24))
    (r_number_with_tops : DR K "number_with_tops" (topS 25))
    (r_row_with_tops : DR K "row_with_tops" (topS 26))
    (r_lifted : DR K "lifted" (topS 27))
    (r_settled : DR K "settled" (topS 28))
    (r_number_of_top_lists : DR K "number_of_top_lists" (topS 29))
    (r_law_taken : DR K "_law_taken" (topS 31))
    (r_law_net : DR K "_law_net" (topS 32))
    (r_law_pick : DR K "_law_pick" (topS 33))
    (r_law_far : DR K "_law_far" (topS 34))
    (r_law_heights : DR K "_law_heights" (topS 35))
    (r_law_lit : DR K "_law_lit" (topS 36))
    (r_law_places : DR K "_law_places" (topS 37))
    (r_law_tops : DR K "_law_tops" (topS 38))
    (r_law_rows : DR K "_law_rows" (topS 39))
    (r_law_alike : DR K "_law_alike" (topS 40))
    {oc : Value} {od an : Option Addr} {kV dc pm cd ct : Value} {sl : Array (Option Value)} (a : PySem.W.nsIn K mainGlobals "law" = some (some (.ref f)))
    (l : K.lookup f = some ⟨oc, od, .func (PySem.W.fnOf "law" "law" (defArgs (topS 41)) (defBody (topS 41)) (defScope (topS 41)) .none kV dc pm an cd ct), sl⟩) (c : PySem.W.codeIn K cd "law" = true) (k : PySem.W.keepIn K (.ref f) = true)
    (z : ZR K) (y : KR K) (nr : NR K C) :
    ∃ fd : FuncData, (∀ (s : Shared) (v : Value), BindsTo s fd ⟨[v], []⟩ [("_law_script", v)]) ∧ ∀ base : Heap, K.In base → base.Ns mainGlobals mg → FnOk P w K mg base CX0 6 fa fd ["_law_script"] (spLaw K) := by
  have e := hfa.symm.trans (PySem.W.mg_of X G a)
  cases e
  have F := fun_mk (st := topS 41) l c k
  have GG : Glob mg := ⟨PySem.W.mg_none_of X G z.z_len, PySem.W.mg_none_of X G z.z_abs, PySem.W.mg_none_of X G z.z_max, PySem.W.mg_none_of X G z.z_min, PySem.W.mg_none_of X G z.z_any, PySem.W.mg_none_of X G z.z_all, PySem.W.mg_none_of X G z.z_sorted, PySem.W.mg_none_of X G z.z_tuple, PySem.W.mg_none_of X G z.z_list, PySem.W.mg_none_of X G z.z_int, PySem.W.mg_none_of X G z.z_bool, PySem.W.mg_none_of X G z.z_str, PySem.W.mg_none_of X G z.z_dict, PySem.W.mg_none_of X G z.z_isinstance, PySem.W.mg_none_of X G z.z_range, PySem.W.mg_none_of X G z.z_enumerate,
    (by obtain ⟨t, q⟩ := y.MOST_PLACES; exact ⟨_, PySem.W.mg_of X G q, t, rfl⟩), (by obtain ⟨t, q⟩ := y.MOST_LENGTH; exact ⟨_, PySem.W.mg_of X G q, t, rfl⟩), (by obtain ⟨t, q⟩ := y.MOST_LISTS; exact ⟨_, PySem.W.mg_of X G q, t, rfl⟩)⟩
  have N1 : NoRowT K mg C := ⟨PySem.W.mg_of X G nr.a, nr.x, nr.k, nr.b, nr.t, exm_same nr.b nr.i nr.t nr.s⟩
  have d_whole := r_whole.dv X G ["value"] fun _ _ _ _ _ _ us hl => match us, hl with | [_], _ => rfl
  have d_within := r_within.dv X G ["value", "low", "high"] fun _ _ _ _ _ _ us hl => match us, hl with | [_, _, _], _ => rfl
  have d_need_number := r_need_number.dv X G ["value", "low", "high"] fun _ _ _ _ _ _ us hl => match us, hl with | [_, _, _], _ => rfl
  have d_tuple_of := r_tuple_of.dv X G ["value", "low", "high"] fun _ _ _ _ _ _ us hl => match us, hl with | [_, _, _], _ => rfl
  have d_is_rod := r_is_rod.dv X G ["many", "value"] fun _ _ _ _ _ _ us hl => match us, hl with | [_, _], _ => rfl
  have d_need_net := r_need_net.dv X G ["value"] fun _ _ _ _ _ _ us hl => match us, hl with | [_], _ => rfl
  have d_table_of := r_table_of.dv X G ["net"] fun _ _ _ _ _ _ us hl => match us, hl with | [_], _ => rfl
  have d_need_tops := r_need_tops.dv X G ["net", "tops"] fun _ _ _ _ _ _ us hl => match us, hl with | [_, _], _ => rfl
  have d_covers_of := r_covers_of.dv X G ["table", "tops"] fun _ _ _ _ _ _ us hl => match us, hl with | [_, _], _ => rfl
  have d_clash_of := r_clash_of.dv X G ["table", "tops"] fun _ _ _ _ _ _ us hl => match us, hl with | [_, _], _ => rfl
  have d_tops_clash := r_tops_clash.dv X G ["net", "tops"] fun _ _ _ _ _ _ us hl => match us, hl with | [_, _], _ => rfl
  have d_open_places := r_open_places.dv X G ["net", "tops"] fun _ _ _ _ _ _ us hl => match us, hl with | [_, _], _ => rfl
  have d_number_with_tops := r_number_with_tops.dv X G ["net", "tops"] fun _ _ _ _ _ _ us hl => match us, hl with | [_, _], _ => rfl
  have d_row_with_tops := r_row_with_tops.dv X G ["net", "tops", "is_greatest"] fun _ _ _ _ _ _ us hl => match us, hl with | [_, _, _], _ => rfl
  have d_lifted := r_lifted.dv X G ["net", "tops"] fun _ _ _ _ _ _ us hl => match us, hl with | [_, _], _ => rfl
  have d_settled := r_settled.dv X G ["net", "tops"] fun _ _ _ _ _ _ us hl => match us, hl with | [_, _], _ => rfl
  have d_number_of_top_lists := r_number_of_top_lists.dv X G ["net", "most"] fun _ _ _ _ _ _ us hl => match us, hl with | [_, _], _ => rfl
  have d_law_taken := r_law_taken.dv X G ["_law_row", "_law_many"] fun _ _ _ _ _ _ us hl => match us, hl with | [_, _], _ => rfl
  have d_law_net := r_law_net.dv X G ["_law_row", "_law_most", "_law_long"] fun _ _ _ _ _ _ us hl => match us, hl with | [_, _, _], _ => rfl
  have d_law_pick := r_law_pick.dv X G ["_law_row", "_law_things"] fun _ _ _ _ _ _ us hl => match us, hl with | [_, _], _ => rfl
  have d_law_far := r_law_far.dv X G ["_law_net_here"] fun _ _ _ _ _ _ us hl => match us, hl with | [_], _ => rfl
  have d_law_heights := r_law_heights.dv X G ["_law_row", "_law_many", "_law_most"] fun _ _ _ _ _ _ us hl => match us, hl with | [_, _, _], _ => rfl
  have d_law_lit := r_law_lit.dv X G ["_law_far_here", "_law_row"] fun _ _ _ _ _ _ us hl => match us, hl with | [_, _], _ => rfl
  have d_law_places := r_law_places.dv X G ["_law_row", "_law_many"] fun _ _ _ _ _ _ us hl => match us, hl with | [_, _], _ => rfl
  have d_law_tops := r_law_tops.dv X G ["_law_row", "_law_net_here", "_law_most"] fun _ _ _ _ _ _ us hl => match us, hl with | [_, _, _], _ => rfl
  have d_law_rows := r_law_rows.dv X G ["_law_many", "_law_most"] fun _ _ _ _ _ _ us hl => match us, hl with | [_, _], _ => rfl
  have d_law_alike := r_law_alike.dv X G ["_law_found", "_law_due"] fun _ _ _ _ _ _ us hl => match us, hl with | [_, _], _ => rfl
  refine ⟨PySem.W.fnOf "law" "law" (defArgs (topS 41)) (defBody (topS 41)) (defScope (topS 41)) .none kV dc pm an cd ct, fun s v => .of_eq rfl, fun base _ _ => ?_⟩
  have c_whole := ok_whole (P := P) (w := w) (base := base) d_whole GG
  have c_within := ok_within (P := P) (w := w) (base := base) d_within GG c_whole
  have c_need_number := ok_need_number (P := P) (w := w) (base := base) d_need_number GG c_within
  have c_tuple_of := ok_tuple_of (P := P) (w := w) (base := base) d_tuple_of GG
  have c_is_rod := ok_is_rod (P := P) (w := w) (base := base) d_is_rod GG c_tuple_of c_whole
  have c_need_net := ok_need_net (P := P) (w := w) (base := base) d_need_net GG c_tuple_of c_within c_is_rod
  have c_table_of := ok_table_of (P := P) (w := w) (base := base) d_table_of GG
  have c_need_tops := ok_need_tops (P := P) (w := w) (base := base) d_need_tops GG c_tuple_of c_within c_need_net c_table_of
  have c_covers_of := ok_covers_of (P := P) (w := w) (base := base) d_covers_of GG
  have c_clash_of := ok_clash_of (P := P) (w := w) (base := base) d_clash_of GG
  have c_tops_clash := ok_tops_clash (P := P) (w := w) (base := base) d_tops_clash GG c_need_tops c_clash_of
  have c_open_places := ok_open_places (P := P) (w := w) (base := base) d_open_places GG c_need_tops c_covers_of
  have c_number_with_tops := ok_number_with_tops (P := P) (w := w) (base := base) d_number_with_tops GG c_need_tops c_covers_of c_clash_of
  have c_row := ok_row_with_tops (P := P) (w := w) (base := base) d_row_with_tops GG N1 c_need_tops c_need_number c_covers_of c_clash_of
  have c_lifted := ok_lifted (P := P) (w := w) (base := base) d_lifted GG c_need_tops c_clash_of
  have c_settled := ok_settled (P := P) (w := w) (base := base) d_settled GG c_need_tops
  have c_number_of_top_lists := ok_number_of_top_lists (P := P) (w := w) (base := base) d_number_of_top_lists GG c_need_net c_need_number c_table_of c_covers_of
  have c_law_taken := ok_law_taken (P := P) (w := w) (base := base) d_law_taken GG
  have c_law_net := ok_law_net (P := P) (w := w) (base := base) d_law_net GG c_law_taken
  have c_law_pick := ok_law_pick (P := P) (w := w) (base := base) d_law_pick GG c_law_taken
  have c_law_far := ok_law_far (P := P) (w := w) (base := base) d_law_far GG
  have c_law_heights := ok_law_heights (P := P) (w := w) (base := base) d_law_heights GG c_law_taken
  have c_law_lit := ok_law_lit (P := P) (w := w) (base := base) d_law_lit GG
  have c_law_places := ok_law_places (P := P) (w := w) (base := base) d_law_places GG c_law_taken
  have c_law_tops := ok_law_tops (P := P) (w := w) (base := base) d_law_tops GG c_law_taken c_law_far c_law_heights c_law_places c_law_lit
  have c_law_rows := ok_law_rows (P := P) (w := w) (base := base) d_law_rows GG
  have c_law_alike := ok_law_alike (P := P) (w := w) (base := base) d_law_alike GG 2
  exact ok_law F GG N1 c_law_taken c_law_net c_law_pick c_law_far c_law_lit c_law_rows c_law_tops c_law_alike c_number_with_tops c_row c_tops_clash c_open_places c_lifted c_settled c_number_of_top_lists
end K8
open PySem PySem.W PyProof.Rows
set_option maxHeartbeats 0 in
theorem PySem.Challenge.cw_littowers_k08_whole_tops_holds : PySem.Challenge.rw_littowers_k08_whole_tops.Holds := by
  w_on; o_law; k_head; (case hw => w_witness2)
  k_fill
  refine L2.walk_of (l := PySem.Challenge.rw_littowers_k08_whole_tops) (n := 63) (k := 6) (x := "_law_script") (CX := fun _ => L2.CX0) (sp := fun w => K8.spLaw _) rfl (by decide) rfl ⟨rfl, by decide, by decide⟩ (fun w h Y => PySem.W.kIn_of Y) ?F (fun _ _ a ns hl _ hS => ⟨a, ns, rfl, hS, hl, fun _ => rfl⟩) (fun _ _ _ _ _ h => h)
  case F =>
    intro w mg fa h KX G hmg
    refine' K8.all_mk KX G hmg ?r0 ?r1 ?r2 ?r3 ?r4 ?r5 ?r6 ?r7 ?r8 ?r9 ?r10 ?r11 ?r12 ?r13 ?r14 ?r15 ?r16 ?r17 ?r18 ?r19 ?r20 ?r21 ?r22 ?r23 ?r24 ?r25 ?r26 ?a ?l ?c ?k ?z ?y ?nr
    case r0 =>
      refine' K8.DR.mk4 ?a0 ?l0 ?c0 ?k0
      (case a0 => k_is); (case l0 => k_is); (case c0 => k_is); (case k0 => k_is)
    case r1 =>
      refine' K8.DR.mk4 ?a1 ?l1 ?c1 ?k1
      (case a1 => k_is); (case l1 => k_is); (case c1 => k_is); (case k1 => k_is)
    case r2 =>
      refine' K8.DR.mk4 ?a2 ?l2 ?c2 ?k2
      (case a2 => k_is); (case l2 => k_is); (case c2 => k_is); (case k2 => k_is)
    case r3 =>
      refine' K8.DR.mk4 ?a3 ?l3 ?c3 ?k3
      (case a3 => k_is); (case l3 => k_is); (case c3 => k_is); (case k3 => k_is)
    case r4 =>
      refine' K8.DR.mk4 ?a4 ?l4 ?c4 ?k4
      (case a4 => k_is); (case l4 => k_is); (case c4 => k_is); (case k4 => k_is)
    case r5 =>
      refine' K8.DR.mk4 ?a5 ?l5 ?c5 ?k5
      (case a5 => k_is); (case l5 => k_is); (case c5 => k_is); (case k5 => k_is)
    case r6 =>
      refine' K8.DR.mk4 ?a6 ?l6 ?c6 ?k6
      (case a6 => k_is); (case l6 => k_is); (case c6 => k_is); (case k6 => k_is)
    case r7 =>
      refine' K8.DR.mk4 ?a7 ?l7 ?c7 ?k7
      (case a7 => k_is); (case l7 => k_is); (case c7 => k_is); (case k7 => k_is)
    case r8 =>
      refine' K8.DR.mk4 ?a8 ?l8 ?c8 ?k8
      (case a8 => k_is); (case l8 => k_is); (case c8 => k_is); (case k8 => k_is)
    case r9 =>
      refine' K8.DR.mk4 ?a9 ?l9 ?c9 ?k9
      (case a9 => k_is); (case l9 => k_is); (case c9 => k_is); (case k9 => k_is)
    case r10 =>
      refine' K8.DR.mk4 ?a10 ?l10 ?c10 ?k10
      (case a10 => k_is); (case l10 => k_is); (case c10 => k_is); (case k10 => k_is)
    case r11 =>
      refine' K8.DR.mk4 ?a11 ?l11 ?c11 ?k11
      (case a11 => k_is); (case l11 => k_is); (case c11 => k_is); (case k11 => k_is)
    case r12 =>
      refine' K8.DR.mk4 ?a12 ?l12 ?c12 ?k12
      (case a12 => k_is); (case l12 => k_is); (case c12 => k_is); (case k12 => k_is)
    case r13 =>
      refine' K8.DR.mk4 ?a13 ?l13 ?c13 ?k13
      (case a13 => k_is); (case l13 => k_is); (case c13 => k_is); (case k13 => k_is)
    case r14 =>
      refine' K8.DR.mk4 ?a14 ?l14 ?c14 ?k14
      (case a14 => k_is); (case l14 => k_is); (case c14 => k_is); (case k14 => k_is)
    case r15 =>
      refine' K8.DR.mk4 ?a15 ?l15 ?c15 ?k15
      (case a15 => k_is); (case l15 => k_is); (case c15 => k_is); (case k15 => k_is)
    case r16 =>
      refine' K8.DR.mk4 ?a16 ?l16 ?c16 ?k16
      (case a16 => k_is); (case l16 => k_is); (case c16 => k_is); (case k16 => k_is)
    case r17 =>
      refine' K8.DR.mk4 ?a17 ?l17 ?c17 ?k17
      (case a17 => k_is); (case l17 => k_is); (case c17 => k_is); (case k17 => k_is)
    case r18 =>
      refine' K8.DR.mk4 ?a18 ?l18 ?c18 ?k18
      (case a18 => k_is); (case l18 => k_is); (case c18 => k_is); (case k18 => k_is)
    case r19 =>
      refine' K8.DR.mk4 ?a19 ?l19 ?c19 ?k19
      (case a19 => k_is); (case l19 => k_is); (case c19 => k_is); (case k19 => k_is)
    case r20 =>
      refine' K8.DR.mk4 ?a20 ?l20 ?c20 ?k20
      (case a20 => k_is); (case l20 => k_is); (case c20 => k_is); (case k20 => k_is)
    case r21 =>
      refine' K8.DR.mk4 ?a21 ?l21 ?c21 ?k21
      (case a21 => k_is); (case l21 => k_is); (case c21 => k_is); (case k21 => k_is)
    case r22 =>
      refine' K8.DR.mk4 ?a22 ?l22 ?c22 ?k22
      (case a22 => k_is); (case l22 => k_is); (case c22 => k_is); (case k22 => k_is)
    case r23 =>
      refine' K8.DR.mk4 ?a23 ?l23 ?c23 ?k23
      (case a23 => k_is); (case l23 => k_is); (case c23 => k_is); (case k23 => k_is)
    case r24 =>
      refine' K8.DR.mk4 ?a24 ?l24 ?c24 ?k24
      (case a24 => k_is); (case l24 => k_is); (case c24 => k_is); (case k24 => k_is)
    case r25 =>
      refine' K8.DR.mk4 ?a25 ?l25 ?c25 ?k25
      (case a25 => k_is); (case l25 => k_is); (case c25 => k_is); (case k25 => k_is)
    case r26 =>
      refine' K8.DR.mk4 ?a26 ?l26 ?c26 ?k26
      (case a26 => k_is); (case l26 => k_is); (case c26 => k_is); (case k26 => k_is)
    (case a => k_is); (case l => k_is); (case c => k_is); (case k => k_is)
    case z =>
      refine' K8.ZR.mk ?z0 ?z1 ?z2 ?z3 ?z4 ?z5 ?z6 ?z7 ?z8 ?z9 ?z10 ?z11 ?z12 ?z13 ?z14 ?z15
      (case z0 => k_is)
      (case z1 => k_is)
      (case z2 => k_is)
      (case z3 => k_is)
      (case z4 => k_is)
      (case z5 => k_is)
      (case z6 => k_is)
      (case z7 => k_is)
      (case z8 => k_is)
      (case z9 => k_is)
      (case z10 => k_is)
      (case z11 => k_is)
      (case z12 => k_is)
      (case z13 => k_is)
      (case z14 => k_is)
      (case z15 => k_is)
    case y =>
      refine' K8.KR.mk3 ?y0 ?y1 ?y2 ?q0 ?q1 ?q2
      (case y0 => k_is)
      (case y1 => k_is)
      (case y2 => k_is)
      (case q0 => exact ⟨_, rfl⟩)
      (case q1 => exact ⟨_, rfl⟩)
      (case q2 => exact ⟨_, rfl⟩)
    case nr =>
      refine' K8.NR.mk ?na ?nx ?nk ?nb ?nt ?ni ?ns
      (case na => k_is); (case nx => k_exc); (case nk => k_is); (case nb => k_is); (case nt => k_is); (case ni => k_is); (case ns => first | rfl | k_is)
