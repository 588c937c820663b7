import PyProof.Rows.All
import Wide.All
import OpenK.AllK
import Wide.FinOn
import HandS.ForMost
import HandS.IsInst
import HandS.Codes
import HandS.Defaults
import HandS.Conv
import HandS.Walk
import HandS.TupAny
import HandS.TupMul
import PySem.Challenge.RW_lastpiece_k12_two_tables_by_hand
set_option Elab.async false
set_option linter.all false
set_option maxRecDepth 100000
set_option maxHeartbeats 4000000
/-! The dish, piece by piece, in plain Lean. -/
namespace D
/-- guests: courtesy and enough -/
abbrev Gs := Nat → Int × Option Int
/-- what lies on the dish, what each has -/
structure S where
  left : Int
  had : Nat → Int
def wants (g : Gs) (s : S) (i : Nat) : Prop := (g i).1 < s.left ∧ ∀ m, (g i).2 = some m → s.had i < m
instance (g : Gs) (s : S) (i : Nat) : Decidable (wants g s i) :=
  match h : (g i).2 with
  | none => if h1 : (g i).1 < s.left then .isTrue ⟨h1, fun m e => by rw [h] at e; cases e⟩ else .isFalse fun z => h1 z.1
  | some m => if h1 : (g i).1 < s.left ∧ s.had i < m then .isTrue ⟨h1.1, fun m' e => by rw [h] at e; cases e; exact h1.2⟩ else .isFalse fun z => h1 ⟨z.1, z.2 m h⟩
def bump (h : Nat → Int) (i : Nat) : Nat → Int := fun j => if j = i then h j + 1 else h j
theorem bump_self (h : Nat → Int) (i : Nat) : bump h i i = h i + 1 := by simp [bump]
theorem bump_ne (h : Nat → Int) {i j : Nat} (e : j ≠ i) : bump h i j = h j := by simp [bump, e]
def vis (g : Gs) (s : S) (i : Nat) : S := if wants g s i then ⟨s.left - 1, bump s.had i⟩ else s
theorem vis_yes {g : Gs} {s : S} {i : Nat} (h : wants g s i) : vis g s i = ⟨s.left - 1, bump s.had i⟩ := if_pos h
theorem vis_no {g : Gs} {s : S} {i : Nat} (h : ¬ wants g s i) : vis g s i = s := if_neg h
/-- behind k visits -/
def run (g : Gs) (n f : Nat) (d : Int) : Nat → S
  | 0 => ⟨d, fun _ => 0⟩
  | k + 1 => vis g (run g n f d k) ((f + k) % n)
def Quiet (g : Gs) (n : Nat) (s : S) : Prop := ∀ i, i < n → ¬ wants g s i
section
variable {g : Gs} {n f : Nat} {d : Int}
theorem run_succ (k : Nat) : run g n f d (k + 1) = vis g (run g n f d k) ((f + k) % n) := rfl
theorem vis_left (s : S) (i : Nat) : (vis g s i).left ≤ s.left ∧ s.left - 1 ≤ (vis g s i).left := by
  unfold vis; split <;> simp <;> omega
theorem vis_had (s : S) (i j : Nat) : s.had j ≤ (vis g s i).had j := by
  unfold vis bump; split
  · simp only; split <;> omega
  · omega
/-- who would not take never takes again -/
theorem no_stays {s : S} {i : Nat} (j : Nat) (h : ¬ wants g s i) : ¬ wants g (vis g s j) i := by
  intro z
  apply h
  have h1 := vis_left (g := g) s j
  have h2 := vis_had (g := g) s j i
  exact ⟨by have := z.1; omega, fun m e => by have := z.2 m e; omega⟩
theorem run_left_le (k m : Nat) : (run g n f d (k + m)).left ≤ (run g n f d k).left := by
  induction m with
  | zero => exact Int.le_refl _
  | succ m ih =>
    have := vis_left (g := g) (run g n f d (k + m)) ((f + (k + m)) % n)
    rw [← Nat.add_assoc, run_succ]
    omega
theorem run_left_ge (k m : Nat) : (run g n f d k).left - m ≤ (run g n f d (k + m)).left := by
  induction m with
  | zero => simp
  | succ m ih =>
    have := vis_left (g := g) (run g n f d (k + m)) ((f + (k + m)) % n)
    rw [← Nat.add_assoc, run_succ]
    omega
theorem run_had_le (k m : Nat) (j : Nat) : (run g n f d k).had j ≤ (run g n f d (k + m)).had j := by
  induction m with
  | zero => exact Int.le_refl _
  | succ m ih =>
    have := vis_had (g := g) (run g n f d (k + m)) ((f + (k + m)) % n) j
    rw [← Nat.add_assoc, run_succ]
    omega
theorem had_nonneg (k j : Nat) : 0 ≤ (run g n f d k).had j := by
  have := run_had_le (g := g) (n := n) (f := f) (d := d) 0 k j
  rw [Nat.zero_add] at this
  exact this
theorem left_le (k : Nat) : (run g n f d k).left ≤ d := by
  have := run_left_le (g := g) (n := n) (f := f) (d := d) 0 k
  rw [Nat.zero_add] at this
  exact this
theorem no_stays_run {k i : Nat} (m : Nat) (h : ¬ wants g (run g n f d k) i) : ¬ wants g (run g n f d (k + m)) i := by
  induction m with
  | zero => exact h
  | succ m ih => exact no_stays _ ih
theorem quiet_stays {k : Nat} (hn : 0 < n) (h : Quiet g n (run g n f d k)) (m : Nat) : run g n f d (k + m) = run g n f d k := by
  induction m with
  | zero => rfl
  | succ m ih =>
    rw [← Nat.add_assoc, run_succ, ih]
    exact vis_no (h _ (Nat.mod_lt _ hn))
/-- each seat is met within a round -/
theorem met (hn : 0 < n) (k i : Nat) (hi : i < n) : ∃ j, j < n ∧ (f + (k + j)) % n = i := by
  refine ⟨(i + n - (f + k) % n) % n, Nat.mod_lt _ hn, ?_⟩
  have h1 : (f + k) % n < n := Nat.mod_lt _ hn
  rw [← Nat.add_assoc, Nat.add_mod_mod, ← Nat.mod_add_mod]
  have e2 : (f + k) % n + (i + n - (f + k) % n) = i + n := by omega
  rw [e2, Nat.add_mod_right, Nat.mod_eq_of_lt hi]
/-- no piece taken: nothing changed -/
theorem same_of_left {k m : Nat} (h : (run g n f d (k + m)).left = (run g n f d k).left) : run g n f d (k + m) = run g n f d k := by
  induction m with
  | zero => rfl
  | succ m ih =>
    have h1 := run_left_le (g := g) (n := n) (f := f) (d := d) k m
    have h2 := vis_left (g := g) (run g n f d (k + m)) ((f + (k + m)) % n)
    rw [← Nat.add_assoc, run_succ] at h
    have h3 : (run g n f d (k + m)).left = (run g n f d k).left := by omega
    have ih' := ih h3
    rw [← Nat.add_assoc, run_succ]
    by_cases w : wants g (run g n f d (k + m)) ((f + (k + m)) % n)
    · rw [vis_yes w] at h
      simp only at h
      omega
    · rw [vis_no w, ih']
theorem progress (hn : 0 < n) {k : Nat} (h : ¬ Quiet g n (run g n f d k)) : (run g n f d (k + n)).left < (run g n f d k).left := by
  apply Classical.byContradiction
  intro hh
  have hle := run_left_le (g := g) (n := n) (f := f) (d := d) k n
  have e : (run g n f d (k + n)).left = (run g n f d k).left := by omega
  apply h
  intro i hi w
  obtain ⟨j, hj, ej⟩ := met (f := f) hn k i hi
  have b1 := run_left_le (g := g) (n := n) (f := f) (d := d) k j
  have b2 := run_left_le (g := g) (n := n) (f := f) (d := d) (k + (j + 1)) (n - (j + 1))
  have e3 : k + (j + 1) + (n - (j + 1)) = k + n := by omega
  rw [e3] at b2
  have b3 := run_left_le (g := g) (n := n) (f := f) (d := d) (k + j) 1
  have b4 : (k + j) + 1 = k + (j + 1) := by omega
  rw [b4] at b3
  have s1 : run g n f d (k + j) = run g n f d k := same_of_left (by omega)
  have s2 : run g n f d (k + (j + 1)) = vis g (run g n f d (k + j)) ((f + (k + j)) % n) := rfl
  rw [s1, ej, vis_yes w] at s2
  have : (run g n f d (k + (j + 1))).left = (run g n f d k).left - 1 := by rw [s2]
  omega

/-! ### sums -/
def total : Nat → (Nat → Int) → Int
  | 0, _ => 0
  | n + 1, h => total n h + h n
theorem total_bump_out : ∀ (n : Nat) (h : Nat → Int) (i : Nat), n ≤ i → total n (bump h i) = total n h
  | 0, _, _, _ => rfl
  | n + 1, h, i, e => by
    show total n (bump h i) + bump h i n = total n h + h n
    rw [total_bump_out n h i (by omega), bump_ne h (by omega)]
theorem total_bump : ∀ (n : Nat) (h : Nat → Int) (i : Nat), i < n → total n (bump h i) = total n h + 1
  | 0, _, i, e => by omega
  | n + 1, h, i, e => by
    show total n (bump h i) + bump h i n = total n h + h n + 1
    by_cases q : i = n
    · subst q
      rw [total_bump_out _ _ _ (Nat.le_refl _), bump_self]; omega
    · rw [total_bump n h i (by omega), bump_ne h (by omega)]; omega
theorem total_zero : ∀ n : Nat, total n (fun _ => 0) = 0
  | 0 => rfl
  | n + 1 => by show total n _ + 0 = 0; rw [total_zero n]; rfl
theorem total_congr : ∀ {n : Nat} {h h' : Nat → Int}, (∀ i, i < n → h i = h' i) → total n h = total n h'
  | 0, _, _, _ => rfl
  | n + 1, h, h', e => by
    show total n h + h n = total n h' + h' n
    rw [total_congr fun i hi => e i (by omega), e n (by omega)]
theorem total_le : ∀ {n : Nat} {h h' : Nat → Int}, (∀ i, i < n → h i ≤ h' i) → total n h ≤ total n h'
  | 0, _, _, _ => Int.le_refl _
  | n + 1, h, h', e => by
    show total n h + h n ≤ total n h' + h' n
    have h1 := total_le (n := n) fun i hi => e i (by omega)
    have h2 := e n (by omega)
    omega
theorem run_sum (hn : 0 < n) (k : Nat) : total n (run g n f d k).had + (run g n f d k).left = d := by
  induction k with
  | zero => show total n (fun _ => 0) + d = d; rw [total_zero]; omega
  | succ k ih =>
    rw [run_succ]
    by_cases w : wants g (run g n f d k) ((f + k) % n)
    · rw [vis_yes w]
      show total n (bump _ _) + ((run g n f d k).left - 1) = d
      rw [total_bump n _ _ (Nat.mod_lt _ hn)]; omega
    · rw [vis_no w]; exact ih
/-! ### the rest -/
theorem left_nonneg (hn : 0 < n) (hc : ∀ i, i < n → 0 ≤ (g i).1) (hd : 0 ≤ d) (k : Nat) : 0 ≤ (run g n f d k).left := by
  induction k with
  | zero => exact hd
  | succ k ih =>
    rw [run_succ]
    by_cases w : wants g (run g n f d k) ((f + k) % n)
    · rw [vis_yes w]
      have := w.1
      have := hc _ (Nat.mod_lt (f + k) hn)
      show 0 ≤ (run g n f d k).left - 1
      omega
    · rw [vis_no w]; exact ih
instance quietDec (g : Gs) : (n : Nat) → (s : S) → Decidable (Quiet g n s)
  | 0, _ => .isTrue fun i hi => absurd hi (Nat.not_lt_zero _)
  | n + 1, s =>
    match quietDec g n s with
    | .isFalse h => .isFalse fun q => h fun i hi => q i (Nat.lt_succ_of_lt hi)
    | .isTrue h => if w : wants g s n then .isFalse fun q => q n (Nat.lt_succ_self n) w else .isTrue fun i hi => by
        by_cases e : i = n
        · rw [e]; exact w
        · exact h i (by omega)
theorem quiet_by (hn : 0 < n) (m : Nat) : Quiet g n (run g n f d (n * m)) ∨ (run g n f d (n * m)).left + m ≤ d := by
  induction m with
  | zero => right; show d + 0 ≤ d; omega
  | succ m ih =>
    rcases ih with q | q
    · left
      have := quiet_stays hn q n
      rw [Nat.mul_succ, this]; exact q
    · by_cases z : Quiet g n (run g n f d (n * m))
      · left
        have := quiet_stays hn z n
        rw [Nat.mul_succ, this]; exact z
      · right
        have := progress hn z
        rw [Nat.mul_succ]
        omega
/-- the number of visits by which it rests surely -/
def enoughVisits (n : Nat) (d : Int) : Nat := n * (d.toNat + 1)
def fin (g : Gs) (n f : Nat) (d : Int) : S := run g n f d (enoughVisits n d)
theorem fin_quiet (hn : 0 < n) (hc : ∀ i, i < n → 0 ≤ (g i).1) (hd : 0 ≤ d) : Quiet g n (fin g n f d) := by
  rcases quiet_by (g := g) (f := f) (d := d) hn (d.toNat + 1) with q | q
  · exact q
  · have := left_nonneg (f := f) hn hc hd (n * (d.toNat + 1))
    omega
theorem fin_of {k : Nat} (hn : 0 < n) (hc : ∀ i, i < n → 0 ≤ (g i).1) (hd : 0 ≤ d) (q : Quiet g n (run g n f d k)) : run g n f d k = fin g n f d := by
  have q2 := fin_quiet (f := f) hn hc hd
  unfold fin at q2 ⊢
  have e1 := quiet_stays hn q (enoughVisits n d)
  have e2 := quiet_stays hn q2 k
  rw [← e1, ← e2, Nat.add_comm]
theorem fin_eq (hn : 0 < n) (hc : ∀ i, i < n → 0 ≤ (g i).1) (hd : 0 ≤ d) {k : Nat} (hk : enoughVisits n d ≤ k) : run g n f d k = fin g n f d := by
  have q2 := fin_quiet (f := f) hn hc hd
  unfold fin at q2 ⊢
  obtain ⟨m, rfl⟩ : ∃ m, k = enoughVisits n d + m := ⟨k - enoughVisits n d, by omega⟩
  exact quiet_stays hn q2 m
end

/-! ### one piece more -/
section
variable {g : Gs} {n f : Nat} {d : Int}
/-- the run of d beside that of d + 1 -/
inductive Beside (g : Gs) (n : Nat) (s s' : S) : Prop
  | none (h1 : s'.left = s.left + 1) (h2 : s'.had = s.had)
  | some (i : Nat) (hi : i < n) (h1 : s'.left = s.left) (h2 : s'.had = bump s.had i) (h3 : s.left ≤ (g i).1)
theorem vis_beside {s s' : S} (h : Beside g n s s') (j : Nat) (hj : j < n) : Beside g n (vis g s j) (vis g s' j) := by
  rcases h with ⟨h1, h2⟩ | ⟨i, hi, h1, h2, h3⟩
  · by_cases w : wants g s j
    · have w' : wants g s' j := ⟨by have := w.1; omega, by rw [h2]; exact w.2⟩
      rw [vis_yes w, vis_yes w']
      exact .none (by simp only; omega) (by simp only; rw [h2])
    · rw [vis_no w]
      by_cases w' : wants g s' j
      · rw [vis_yes w']
        refine .some j hj (by simp only; omega) (by simp only; rw [h2]) ?_
        apply Classical.byContradiction
        intro z
        exact w ⟨by omega, by rw [← h2]; exact w'.2⟩
      · rw [vis_no w']
        exact .none h1 h2
  · by_cases e : j = i
    · subst e
      have w : ¬ wants g s j := fun z => by have := z.1; omega
      have w' : ¬ wants g s' j := fun z => by have := z.1; omega
      rw [vis_no w, vis_no w']
      exact .some j hi h1 h2 h3
    · have ej : s'.had j = s.had j := by rw [h2, bump_ne _ e]
      by_cases w : wants g s j
      · have w' : wants g s' j := ⟨by have := w.1; omega, by rw [ej]; exact w.2⟩
        rw [vis_yes w, vis_yes w']
        refine .some i hi (by simp only; omega) ?_ (by simp only; omega)
        simp only
        rw [h2]
        funext x
        unfold bump
        split <;> split <;> rfl
      · have w' : ¬ wants g s' j := fun z => w ⟨by have := z.1; omega, by rw [← ej]; exact z.2⟩
        rw [vis_no w, vis_no w']
        exact .some i hi h1 h2 h3
theorem run_beside (hn : 0 < n) (k : Nat) : Beside g n (run g n f d k) (run g n f (d + 1) k) := by
  induction k with
  | zero => exact .none rfl rfl
  | succ k ih => exact vis_beside ih _ (Nat.mod_lt _ hn)
/-- who has one more -/
theorem fin_beside (hn : 0 < n) (hc : ∀ i, i < n → 0 ≤ (g i).1) (hd : 0 ≤ d) : Beside g n (fin g n f d) (fin g n f (d + 1)) := by
  have h := run_beside (g := g) (f := f) (d := d) hn (enoughVisits n d + enoughVisits n (d + 1))
  rw [fin_eq hn hc hd (by omega), fin_eq hn hc (by omega) (by omega)] at h
  exact h
end
/-! ### whole rounds -/
section
variable {g : Gs} {n f : Nat} {d : Int}
/-- how many of the n fulfil A -/
def many (n : Nat) (A : Nat → Prop) [∀ i, Decidable (A i)] : Int := total n fun i => if A i then 1 else 0
theorem total_add : ∀ (n : Nat) (h h' : Nat → Int), total n (fun i => h i + h' i) = total n h + total n h'
  | 0, _, _ => rfl
  | n + 1, h, h' => by
    show total n _ + (h n + h' n) = (total n h + h n) + (total n h' + h' n)
    rw [total_add n h h']; omega
theorem total_mul : ∀ (n : Nat) (m : Int) (h : Nat → Int), total n (fun i => m * h i) = m * total n h
  | 0, m, _ => (Int.mul_zero m).symm
  | n + 1, m, h => by
    show total n _ + m * h n = m * (total n h + h n)
    rw [total_mul n m h, Int.mul_add]
theorem total_lt {n : Nat} {h h' : Nat → Int} (e : ∀ i, i < n → h i ≤ h' i) {j : Nat} (hj : j < n) (l : h j < h' j) : total n h < total n h' := by
  have h1 : total n (bump h j) ≤ total n h' := total_le fun i hi => by
    by_cases q : i = j
    · rw [q, bump_self]; omega
    · rw [bump_ne h q]; exact e i hi
  rw [total_bump n h j hj] at h1
  omega
theorem total_nonneg : ∀ {n : Nat} {h : Nat → Int}, (∀ i, i < n → 0 ≤ h i) → 0 ≤ total n h
  | 0, _, _ => Int.le_refl _
  | n + 1, h, e => by
    show 0 ≤ total n h + h n
    have h1 := total_nonneg (n := n) fun i hi => e i (by omega)
    have h2 := e n (by omega)
    omega
theorem seat_inj {a i j : Nat} (hij : i < j) (hj : j < n) (e : (a + i) % n = (a + j) % n) : False := by
  have h1 : (a + j - (a + i)) % n = 0 := Nat.sub_mod_eq_zero_of_mod_eq e.symm
  have h2 : a + j - (a + i) = j - i := by omega
  rw [h2, Nat.mod_eq_of_lt (by omega)] at h1
  omega
/-- one round in which all who want one take one -/
theorem one_round {k : Nat} (hn : 0 < n) (hc : ∀ i, i < n → wants g (run g n f d k) i → (g i).1 ≤ (run g n f d k).left - many n (wants g (run g n f d k))) :
    (∀ i, i < n → (run g n f d (k + n)).had i = (run g n f d k).had i + if wants g (run g n f d k) i then 1 else 0) ∧
    (run g n f d (k + n)).left = (run g n f d k).left - many n (wants g (run g n f d k)) := by
  have inv : ∀ j, j ≤ n → ∀ i, i < n → (((∃ j', j' < j ∧ (f + (k + j')) % n = i) → (run g n f d (k + j)).had i = (run g n f d k).had i + if wants g (run g n f d k) i then 1 else 0) ∧
      ((¬ ∃ j', j' < j ∧ (f + (k + j')) % n = i) → (run g n f d (k + j)).had i = (run g n f d k).had i)) := by
    intro j
    induction j with
    | zero => exact fun _ i _ => ⟨fun ⟨j', h, _⟩ => absurd h (Nat.not_lt_zero _), fun _ => rfl⟩
    | succ j ih =>
      intro hj i hi
      have ih := ih (by omega)
      have hs : (f + (k + j)) % n < n := Nat.mod_lt _ hn
      have fresh : ¬ ∃ j', j' < j ∧ (f + (k + j')) % n = (f + (k + j)) % n := fun ⟨j', h1, h2⟩ => seat_inj (n := n) (a := f + k) h1 (by omega) (by rw [Nat.add_assoc, Nat.add_assoc]; exact h2)
      have e0 := (ih _ hs).2 fresh
      have le1 : ∀ x, x < n → (run g n f d (k + j)).had x ≤ (run g n f d k).had x + if wants g (run g n f d k) x then 1 else 0 := fun x hx => by
        by_cases q : ∃ j', j' < j ∧ (f + (k + j')) % n = x
        · rw [(ih x hx).1 q]; exact Int.le_refl _
        · rw [(ih x hx).2 q]; split <;> omega
      have st : run g n f d (k + (j + 1)) = vis g (run g n f d (k + j)) ((f + (k + j)) % n) := rfl
      rw [st]
      by_cases w : wants g (run g n f d k) ((f + (k + j)) % n)
      · have lf : (g ((f + (k + j)) % n)).1 < (run g n f d (k + j)).left := by
          have s1 := run_sum (g := g) (f := f) (d := d) hn k
          have s2 := run_sum (g := g) (f := f) (d := d) hn (k + j)
          have h1 := total_lt (h := (run g n f d (k + j)).had) (h' := fun x => (run g n f d k).had x + if wants g (run g n f d k) x then 1 else 0) le1 hs (by rw [e0, if_pos w]; omega)
          rw [total_add] at h1
          have h2 := hc _ hs w
          have h3 : total n (fun x => if wants g (run g n f d k) x then (1 : Int) else 0) = many n (wants g (run g n f d k)) := rfl
          omega
        have w' : wants g (run g n f d (k + j)) ((f + (k + j)) % n) := ⟨lf, fun m e => by rw [e0]; exact w.2 m e⟩
        rw [vis_yes w']
        by_cases q : i = (f + (k + j)) % n
        · refine ⟨fun _ => ?_, fun h => absurd ⟨j, Nat.lt_succ_self j, q.symm⟩ h⟩
          show bump _ _ i = _
          rw [q, bump_self, e0, if_pos w]
        · refine ⟨fun ⟨j', h1, h2⟩ => ?_, fun h => ?_⟩
          · show bump _ _ i = _
            rw [bump_ne _ q]
            refine (ih i hi).1 ⟨j', ?_, h2⟩
            by_cases z : j' = j
            · rw [z] at h2; exact absurd h2.symm q
            · omega
          · show bump _ _ i = _
            rw [bump_ne _ q]
            exact (ih i hi).2 fun ⟨j', h1, h2⟩ => h ⟨j', by omega, h2⟩
      · have w' : ¬ wants g (run g n f d (k + j)) ((f + (k + j)) % n) := no_stays_run j w
        rw [vis_no w']
        refine ⟨fun ⟨j', h1, h2⟩ => ?_, fun h => ?_⟩
        · by_cases z : j' = j
          · rw [z] at h2
            rw [← h2, e0, if_neg w]; omega
          · exact (ih i hi).1 ⟨j', by omega, h2⟩
        · exact (ih i hi).2 fun ⟨j', h1, h2⟩ => h ⟨j', by omega, h2⟩
  have hh : ∀ i, i < n → (run g n f d (k + n)).had i = (run g n f d k).had i + if wants g (run g n f d k) i then 1 else 0 := fun i hi => by
    obtain ⟨j, hj, e⟩ := met (f := f) hn k i hi
    exact (inv n (Nat.le_refl _) i hi).1 ⟨j, hj, e⟩
  refine ⟨hh, ?_⟩
  have s1 := run_sum (g := g) (f := f) (d := d) hn k
  have s2 := run_sum (g := g) (f := f) (d := d) hn (k + n)
  rw [total_congr hh, total_add] at s2
  have h3 : total n (fun x => if wants g (run g n f d k) x then (1 : Int) else 0) = many n (wants g (run g n f d k)) := rfl
  omega
theorem many_congr {n : Nat} {A B : Nat → Prop} [∀ i, Decidable (A i)] [∀ i, Decidable (B i)] (h : ∀ i, i < n → (A i ↔ B i)) : many n A = many n B :=
  total_congr fun i hi => by
    by_cases a : A i
    · rw [if_pos a, if_pos ((h i hi).mp a)]
    · rw [if_neg a, if_neg fun b => a ((h i hi).mpr b)]
theorem many_nonneg {n : Nat} {A : Nat → Prop} [∀ i, Decidable (A i)] : 0 ≤ many n A := total_nonneg fun i _ => by split <;> omega
theorem many_pos {n : Nat} {A : Nat → Prop} [∀ i, Decidable (A i)] {i : Nat} (hi : i < n) (h : A i) : 1 ≤ many n A := by
  have := total_lt (n := n) (h := fun _ => 0) (h' := fun i => if A i then 1 else 0) (fun i _ => by split <;> omega) hi (by rw [if_pos h]; omega)
  rw [total_zero] at this
  exact this
/-- m rounds in which just those who want one now take one each -/
theorem skip {k : Nat} (hn : 0 < n) (m : Nat)
    (hc : ∀ i, i < n → wants g (run g n f d k) i → (g i).1 ≤ (run g n f d k).left - m * many n (wants g (run g n f d k)))
    (he : ∀ i, i < n → wants g (run g n f d k) i → ∀ e, (g i).2 = some e → (run g n f d k).had i + m ≤ e) :
    (∀ i, i < n → (run g n f d (k + m * n)).had i = (run g n f d k).had i + if wants g (run g n f d k) i then (m : Int) else 0) ∧
    (run g n f d (k + m * n)).left = (run g n f d k).left - m * many n (wants g (run g n f d k)) := by
  have go : ∀ r, r ≤ m → (∀ i, i < n → (run g n f d (k + r * n)).had i = (run g n f d k).had i + if wants g (run g n f d k) i then (r : Int) else 0) ∧
      (run g n f d (k + r * n)).left = (run g n f d k).left - r * many n (wants g (run g n f d k)) := by
    intro r
    induction r with
    | zero =>
      intro _
      refine ⟨fun i _ => ?_, ?_⟩
      · rw [Nat.zero_mul, Nat.add_zero]; split <;> simp
      · rw [Nat.zero_mul, Nat.add_zero]; simp
    | succ r ih =>
      intro hr
      obtain ⟨ih1, ih2⟩ := ih (by omega)
      have hN := many_nonneg (n := n) (A := wants g (run g n f d k))
      have same : ∀ i, i < n → (wants g (run g n f d (k + r * n)) i ↔ wants g (run g n f d k) i) := fun i hi => by
        refine ⟨fun w => Classical.byContradiction fun z => no_stays_run (r * n) z w, fun w => ?_⟩
        have h1 := hc i hi w
        have h2 := many_pos hi w
        have h3 : ((r : Int) + 1) * many n (wants g (run g n f d k)) ≤ (m : Int) * many n (wants g (run g n f d k)) := Int.mul_le_mul_of_nonneg_right (by omega) hN
        rw [Int.add_mul, Int.one_mul] at h3
        refine ⟨by rw [ih2]; omega, fun e ee => ?_⟩
        rw [ih1 i hi, if_pos w]
        have := he i hi w e ee
        omega
      have mm := many_congr (A := wants g (run g n f d (k + r * n))) (B := wants g (run g n f d k)) same
      have o := one_round (g := g) (f := f) (d := d) (k := k + r * n) hn (fun i hi w => by
        have w0 := (same i hi).mp w
        have h1 := hc i hi w0
        have h3 : ((r : Int) + 1) * many n (wants g (run g n f d k)) ≤ (m : Int) * many n (wants g (run g n f d k)) := Int.mul_le_mul_of_nonneg_right (by omega) hN
        rw [Int.add_mul, Int.one_mul] at h3
        rw [mm, ih2]
        omega)
      have ek : k + (r + 1) * n = k + r * n + n := by rw [Nat.succ_mul, Nat.add_assoc]
      rw [ek]
      refine ⟨fun i hi => ?_, ?_⟩
      · rw [o.1 i hi, ih1 i hi]
        by_cases w : wants g (run g n f d k) i
        · rw [if_pos w, if_pos w, if_pos ((same i hi).mpr w)]
          push_cast
          omega
        · rw [if_neg w, if_neg w, if_neg fun z => w ((same i hi).mp z)]; omega
      · rw [o.2, mm, ih2]
        push_cast
        rw [Int.add_mul, Int.one_mul]
        omega
  exact go m (Nat.le_refl _)
end
end D
namespace D
/-! ### small tables: what great dishes bring -/
section
variable {g g' : Gs} {n f : Nat} {d : Int}
theorem had_le' {i : Nat} {m : Int} (e : (g i).2 = some m) (h0 : 0 ≤ m) (k : Nat) : (run g n f d k).had i ≤ m := by
  induction k with
  | zero => exact h0
  | succ k ih =>
    rw [run_succ]
    by_cases w : wants g (run g n f d k) ((f + k) % n)
    · rw [vis_yes w]
      show bump _ _ i ≤ m
      by_cases z : i = (f + k) % n
      · have := w.2 m (by rw [← z]; exact e)
        rw [← z] at this ⊢
        rw [bump_self]
        omega
      · rw [bump_ne _ z]
        exact ih
    · rw [vis_no w]
      exact ih
/-- courtesies of at most C, enoughs of at most E -/
def Small (g : Gs) (n C E : Nat) : Prop := ∀ i, i < n → 0 ≤ (g i).1 ∧ (g i).1 ≤ C ∧ ∀ m, (g i).2 = some m → 0 ≤ m ∧ m ≤ E
def opn (g : Gs) (i : Nat) : Prop := (g i).2 = none
instance (g : Gs) (i : Nat) : Decidable (opn g i) := inferInstanceAs (Decidable ((g i).2 = none))
/-- what i has behind r rounds of a great dish -/
def lim (g : Gs) (r i : Nat) : Int := match (g i).2 with
  | none => r
  | some m => if m ≤ r then m else r
theorem lim_le {C E : Nat} (h : Small g n C E) (r i : Nat) (hi : i < n) : 0 ≤ lim g r i ∧ lim g r i ≤ r := by
  unfold lim
  cases e : (g i).2 with
  | none => simp
  | some m =>
    have := ((h i hi).2.2 m e).1
    simp only
    split <;> omega
theorem total_const : ∀ (n : Nat) (c : Int), total n (fun _ => c) = n * c
  | 0, c => by rw [Int.natCast_zero, Int.zero_mul]; rfl
  | n + 1, c => by
    show total n _ + c = _
    rw [total_const n c, Int.natCast_add, Int.add_mul]
    omega
theorem rounds_lim {C E : Nat} (hn : 0 < n) (h : Small g n C E) (hd : (C : Int) + n * E ≤ d) (r : Nat) (hr : r ≤ E) : (∀ i, i < n → (run g n f d (r * n)).had i = lim g r i) ∧ (run g n f d (r * n)).left = d - total n (lim g r) := by
  have left : ∀ k, (∀ i, i < n → (run g n f d k).had i = lim g r i) → (run g n f d k).left = d - total n (lim g r) := fun k hh => by
    have := run_sum (g := g) (f := f) (d := d) hn k
    rw [total_congr hh] at this
    omega
  induction r with
  | zero =>
    have h0 : ∀ i, i < n → (run g n f d (0 * n)).had i = lim g 0 i := fun i hi => by
      rw [Nat.zero_mul]
      show (0 : Int) = _
      have := lim_le h 0 i hi
      omega
    exact ⟨h0, left _ h0⟩
  | succ r ih =>
    have left0 : ∀ k, (∀ i, i < n → (run g n f d k).had i = lim g r i) → (run g n f d k).left = d - total n (lim g r) := fun k hh => by
      have := run_sum (g := g) (f := f) (d := d) hn k
      rw [total_congr hh] at this
      omega
    obtain ⟨h1, h2⟩ := ih (by omega) left0
    have tl : total n (lim g r) ≤ n * (r : Int) := by
      rw [← total_const]
      exact total_le fun i hi => (lim_le h r i hi).2
    have nE : (n : Int) * (r : Int) + n ≤ n * E := by
      have : (n : Int) * ((r : Int) + 1) ≤ n * E := Int.mul_le_mul_of_nonneg_left (by omega) (by omega)
      rw [Int.mul_add, Int.mul_one] at this
      exact this
    have mN : many n (wants g (run g n f d (r * n))) ≤ n := by
      have : many n (wants g (run g n f d (r * n))) ≤ total n (fun _ => 1) := total_le fun i _ => by split <;> omega
      rw [total_const, Int.mul_one] at this
      exact this
    obtain ⟨o1, _⟩ := one_round (g := g) (f := f) (d := d) (k := r * n) hn (fun i hi _ => by
      have := (h i hi).2.1
      omega)
    have hh : ∀ i, i < n → (run g n f d ((r + 1) * n)).had i = lim g (r + 1) i := fun i hi => by
      rw [Nat.succ_mul, o1 i hi, h1 i hi]
      have hC := (h i hi).2.1
      have key : wants g (run g n f d (r * n)) i ↔ ∀ m, (g i).2 = some m → (r : Int) < m := by
        unfold wants
        rw [h1 i hi]
        refine ⟨fun w m e => ?_, fun w => ⟨by omega, fun m e => ?_⟩⟩
        · have := w.2 m e
          unfold lim at this
          rw [e] at this
          simp only at this
          split at this <;> omega
        · have := w m e
          unfold lim
          rw [e]
          simp only
          split <;> omega
      unfold lim
      cases e : (g i).2 with
      | none =>
        rw [if_pos (key.mpr fun m em => by rw [e] at em; cases em)]
        simp only
        omega
      | some m =>
        have m0 := ((h i hi).2.2 m e).1
        by_cases w : (r : Int) < m
        · rw [if_pos (key.mpr fun m' em => by rw [e] at em; cases em; exact w)]
          simp only
          rw [if_neg (by omega)]
          split <;> omega
        · rw [if_neg (fun z => w (key.mp z m e))]
          simp only
          rw [if_pos (by omega), if_pos (by omega)]
          omega
    exact ⟨hh, left _ hh⟩
/-- two runs with the same left, the open ones ahead by one -/
def Ahead (g : Gs) (n : Nat) (s s' : S) : Prop := s'.left = s.left ∧ ∀ i, i < n → s'.had i = s.had i + if opn g i then 1 else 0
theorem vis_ahead {s s' : S} (h : Ahead g n s s') {j : Nat} (hj : j < n) : Ahead g n (vis g s j) (vis g s' j) := by
  obtain ⟨h1, h2⟩ := h
  have iff : wants g s' j ↔ wants g s j := by
    unfold wants
    rw [h1, h2 j hj]
    refine and_congr Iff.rfl ⟨fun z m e => ?_, fun z m e => ?_⟩
    · have := z m e
      rw [if_neg (show ¬ opn g j by unfold opn; rw [e]; intro q; cases q)] at this
      omega
    · have := z m e
      rw [if_neg (show ¬ opn g j by unfold opn; rw [e]; intro q; cases q)]
      omega
  by_cases w : wants g s j
  · rw [vis_yes w, vis_yes (iff.mpr w)]
    refine ⟨by show _ - 1 = _ - 1; rw [h1], fun i hi => ?_⟩
    show bump _ _ i = bump _ _ i + _
    have := h2 i hi
    by_cases z : i = j
    · rw [z, bump_self, bump_self]
      rw [z] at this
      omega
    · rw [bump_ne _ z, bump_ne _ z]
      exact this
  · rw [vis_no w, vis_no fun z => w (iff.mp z)]
    exact ⟨h1, h2⟩
theorem many_opn_le (g : Gs) (n : Nat) : 0 ≤ many n (opn g) ∧ many n (opn g) ≤ n := by
  refine ⟨many_nonneg, ?_⟩
  have : many n (opn g) ≤ total n (fun _ => 1) := total_le fun i _ => by split <;> omega
  rw [total_const, Int.mul_one] at this
  exact this
/-- as many pieces more as there are open ones: each of them has one more -/
theorem period {C E : Nat} (hn : 0 < n) (h : Small g n C E) (hd : (C : Int) + n * E ≤ d) (i : Nat) (hi : i < n) :
    (fin g n f (d + many n (opn g))).had i = (fin g n f d).had i + if opn g i then 1 else 0 := by
  obtain ⟨k0, kn⟩ := many_opn_le g n
  have d0 : 0 ≤ d := by
    have : (0 : Int) ≤ (n : Int) * E := Int.mul_nonneg (by omega) (by omega)
    omega
  have hc : ∀ i, i < n → 0 ≤ (g i).1 := fun i hi => (h i hi).1
  obtain ⟨a1, a2⟩ := rounds_lim (f := f) hn h hd E (Nat.le_refl _)
  obtain ⟨b1, b2⟩ := rounds_lim (f := f) hn h (show (C : Int) + n * E ≤ d + many n (opn g) by omega) E (Nat.le_refl _)
  have tl : total n (lim g E) ≤ n * (E : Int) := by
    rw [← total_const]
    exact total_le fun i hi => (lim_le h E i hi).2
  -- who wants one behind E rounds: the open ones
  have key : ∀ i, i < n → opn g i → 1 ≤ many n (opn g) := fun i hi o => many_pos hi o
  have wb : ∀ i, i < n → (wants g (run g n f (d + many n (opn g)) (E * n)) i ↔ opn g i) := fun i hi => by
    unfold wants
    rw [b1 i hi, b2]
    refine ⟨fun z => ?_, fun o => ⟨?_, fun m e => ?_⟩⟩
    · cases e : (g i).2 with
      | none => exact e
      | some m =>
        have := z.2 m e
        unfold lim at this
        rw [e] at this
        simp only at this
        have hm := ((h i hi).2.2 m e).2
        rw [if_pos (by omega)] at this
        omega
    · have h1 := (h i hi).2.1
      have h2 := key i hi o
      omega
    · unfold opn at o
      rw [o] at e
      cases e
  have mm := many_congr (A := wants g (run g n f (d + many n (opn g)) (E * n))) (B := opn g) wb
  obtain ⟨o1, o2⟩ := one_round (g := g) (f := f) (d := d + many n (opn g)) (k := E * n) hn (fun i hi w => by
    rw [mm, b2]
    have := (h i hi).2.1
    omega)
  have start : Ahead g n (run g n f d (E * n)) (run g n f (d + many n (opn g)) (E * n + n)) := by
    refine ⟨by rw [o2, mm, b2, a2]; omega, fun i hi => ?_⟩
    rw [o1 i hi, b1 i hi, a1 i hi]
    by_cases o : opn g i
    · rw [if_pos o, if_pos ((wb i hi).mpr o)]
    · rw [if_neg o, if_neg fun z => o ((wb i hi).mp z)]
  have go : ∀ j, Ahead g n (run g n f d (E * n + j)) (run g n f (d + many n (opn g)) (E * n + n + j)) := fun j => by
    induction j with
    | zero => exact start
    | succ j ih =>
      have e1 : (f + (E * n + n + j)) % n = (f + (E * n + j)) % n := by
        rw [show f + (E * n + n + j) = f + (E * n + j) + n by omega, Nat.add_mod_right]
      rw [← Nat.add_assoc, ← Nat.add_assoc, run_succ, run_succ, e1]
      exact vis_ahead ih (Nat.mod_lt _ hn)
  have z := go (enoughVisits n d + enoughVisits n (d + many n (opn g)))
  rw [fin_eq hn hc d0 (by omega), fin_eq hn hc (by omega) (by omega)] at z
  exact z.2 i hi
/-- one who has an enough has it -/
theorem full {C E : Nat} (hn : 0 < n) (h : Small g n C E) (hd : (C : Int) + n * E ≤ d) (i : Nat) (hi : i < n) {m : Int} (e : (g i).2 = some m) : (fin g n f d).had i = m := by
  have hm := (h i hi).2.2 m e
  have d0 : 0 ≤ d := by
    have : (0 : Int) ≤ (n : Int) * E := Int.mul_nonneg (by omega) (by omega)
    omega
  obtain ⟨a1, _⟩ := rounds_lim (f := f) hn h hd E (Nat.le_refl _)
  have l1 : lim g E i = m := by
    unfold lim
    rw [e]
    simp only
    rw [if_pos hm.2]
  have l2 := run_had_le (g := g) (n := n) (f := f) (d := d) (E * n) (enoughVisits n d) i
  rw [fin_eq hn (fun i hi => (h i hi).1) d0 (show enoughVisits n d ≤ E * n + enoughVisits n d by omega), a1 i hi, l1] at l2
  have l3 := had_le' (n := n) (f := f) (d := d) e hm.1 (enoughVisits n d)
  have l4 : (fin g n f d).had i ≤ m := l3
  omega
theorem fin_mono (hn : 0 < n) (hc : ∀ i, i < n → 0 ≤ (g i).1) (hd : 0 ≤ d) (k : Nat) (i : Nat) : (fin g n f d).had i ≤ (fin g n f (d + k)).had i := by
  induction k with
  | zero => rw [Int.natCast_zero, Int.add_zero]; exact Int.le_refl _
  | succ k ih =>
    have b := fin_beside (g := g) (n := n) (f := f) (d := d + k) hn hc (by omega)
    rw [show d + ((k + 1 : Nat) : Int) = d + k + 1 by omega]
    rcases b with ⟨_, h2⟩ | ⟨j, _, _, h2, _⟩
    · rw [h2]; exact ih
    · rw [h2]
      unfold bump
      split <;> omega
theorem opn_iff {C E : Nat} (hn : 0 < n) (h : Small g n C E) (i : Nat) (hi : i < n) : opn g i ↔ (fin g n f ((C : Int) + n * E)).had i < (fin g n f ((C : Int) + n * E + n)).had i := by
  have nn : (0 : Int) ≤ (n : Int) * E := Int.mul_nonneg (by omega) (by omega)
  constructor
  · intro o
    have p := period (f := f) hn h (Int.le_refl _) i hi
    rw [if_pos o] at p
    obtain ⟨k0, kn⟩ := many_opn_le g n
    have m := fin_mono (g := g) (f := f) (d := (C : Int) + n * E + many n (opn g)) hn (fun i hi => (h i hi).1) (by omega) (n - (many n (opn g)).toNat) i
    rw [show (C : Int) + n * E + many n (opn g) + ((n - (many n (opn g)).toNat : Nat) : Int) = (C : Int) + n * E + n by omega] at m
    omega
  · intro lt
    cases e : (g i).2 with
    | none => exact e
    | some m =>
      rw [full hn h (Int.le_refl _) i hi e, full hn h (show (C : Int) + n * E ≤ (C : Int) + n * E + n by omega) i hi e] at lt
      omega
/-- who agree at the small dishes agree at all -/
theorem agree {C E : Nat} (hn : 0 < n) (h : Small g n C E) (h' : Small g' n C E) (hh : ∀ d : Nat, (d : Int) ≤ (C : Int) + n * E + n → ∀ i, i < n → (fin g n f d).had i = (fin g' n f d).had i) (d : Nat) : ∀ i, i < n → (fin g n f d).had i = (fin g' n f d).had i := by
  have nn : (0 : Int) ≤ (n : Int) * E := Int.mul_nonneg (by omega) (by omega)
  have cast1 : ((C + n * E : Nat) : Int) = (C : Int) + n * E := by push_cast; rfl
  have cast2 : ((C + n * E + n : Nat) : Int) = (C : Int) + n * E + n := by push_cast; rfl
  have oo : ∀ i, i < n → (opn g i ↔ opn g' i) := fun i hi => by
    rw [opn_iff (f := f) hn h i hi, opn_iff (f := f) hn h' i hi]
    have e1 := hh (C + n * E) (by rw [cast1]; omega) i hi
    have e2 := hh (C + n * E + n) (by rw [cast2]; omega) i hi
    rw [cast1] at e1
    rw [cast2] at e2
    rw [e1, e2]
  have mm : many n (opn g) = many n (opn g') := many_congr oo
  induction d using Nat.strongRecOn with
  | _ d ih =>
    intro i hi
    by_cases c : (d : Int) ≤ (C : Int) + n * E + n
    · exact hh d c i hi
    · obtain ⟨k0, kn⟩ := many_opn_le g n
      by_cases z : many n (opn g) = 0
      · have no : ¬ opn g i := fun o => by have := many_pos hi o; omega
        have no' : ¬ opn g' i := fun o => no ((oo i hi).mpr o)
        cases e : (g i).2 with
        | none => exact absurd e no
        | some m =>
          cases e' : (g' i).2 with
          | none => exact absurd e' no'
          | some m' =>
            have e1 := hh (C + n * E) (by rw [cast1]; omega) i hi
            rw [cast1, full hn h (Int.le_refl _) i hi e, full hn h' (Int.le_refl _) i hi e'] at e1
            rw [full hn h (by omega) i hi e, full hn h' (by omega) i hi e']
            exact e1
      · obtain ⟨k, hk⟩ : ∃ k : Nat, many n (opn g) = (k : Int) := ⟨(many n (opn g)).toNat, by omega⟩
        have p := period (f := f) (d := ((d - k : Nat) : Int)) hn h (by omega) i hi
        have p' := period (f := f) (d := ((d - k : Nat) : Int)) hn h' (by omega) i hi
        rw [← mm] at p'
        rw [hk, show ((d - k : Nat) : Int) + (k : Int) = (d : Int) by omega] at p p'
        rw [p, p', ih (d - k) (by omega) i hi]
        by_cases o : opn g i
        · rw [if_pos o, if_pos ((oo i hi).mp o)]
        · rw [if_neg o, if_neg fun y => o ((oo i hi).mpr y)]
end
end D
namespace D
/-! ### the shares as lists -/
abbrev gs (t : List (Int × Option Int)) : Gs := fun i => t.getD i (0, none)
def hadL (n : Nat) (h : Nat → Int) : List Int := (List.range n).map h
theorem hadL_len (n : Nat) (h : Nat → Int) : (hadL n h).length = n := by simp [hadL]
theorem hadL_get {n : Nat} (h : Nat → Int) {i : Nat} (hi : i < n) : (hadL n h)[i]? = some (h i) := by simp [hadL, hi]
theorem hadL_congr {n : Nat} {h h' : Nat → Int} (e : ∀ i, i < n → h i = h' i) : hadL n h = hadL n h' :=
  List.map_congr_left fun i hi => e i (List.mem_range.mp hi)
theorem hadL_inj {n : Nat} {h h' : Nat → Int} (e : hadL n h = hadL n h') {i : Nat} (hi : i < n) : h i = h' i := by
  have := hadL_get h hi
  rw [e, hadL_get h' hi] at this
  exact (Option.some.inj this).symm
theorem hadL_set {n : Nat} (h : Nat → Int) {i : Nat} (hi : i < n) (v : Int) : (hadL n h).set i v = hadL n (fun j => if j = i then v else h j) := by
  apply List.ext_getElem?
  intro j
  by_cases hj : j < n
  · rw [hadL_get _ hj]
    by_cases e : j = i
    · subst e
      rw [List.getElem?_set_self (by rw [hadL_len]; exact hi), if_pos rfl]
    · rw [List.getElem?_set_ne (Ne.symm e), hadL_get _ hj, if_neg e]
  · rw [List.getElem?_eq_none (by rw [List.length_set, hadL_len]; omega), List.getElem?_eq_none (by rw [hadL_len]; omega)]
theorem hadL_bump {n : Nat} (h : Nat → Int) {i : Nat} (hi : i < n) : (hadL n h).set i (h i + 1) = hadL n (bump h i) := by
  rw [hadL_set h hi]
  refine hadL_congr fun j _ => ?_
  unfold bump
  by_cases e : j = i
  · rw [if_pos e, if_pos e, e]
  · rw [if_neg e, if_neg e]
theorem hadL_zero (n : Nat) : hadL n (fun _ => 0) = List.replicate n 0 := by
  apply List.ext_getElem?
  intro j
  by_cases hj : j < n
  · rw [hadL_get _ hj, List.getElem?_replicate, if_pos hj]
  · rw [List.getElem?_eq_none (by rw [hadL_len]; omega), List.getElem?_replicate, if_neg hj]
theorem total_hadL : ∀ (n : Nat) (h : Nat → Int), (hadL n h).sum = total n h
  | 0, _ => rfl
  | n + 1, h => by
    show ((List.range (n + 1)).map h).sum = total n h + h n
    rw [List.range_succ, List.map_append, List.sum_append, ← total_hadL n h]
    simp [hadL]
/-- the seats that want one, in order -/
def act (g : Gs) (n : Nat) (s : S) : List Nat := (List.range n).filter fun i => decide (wants g s i)
theorem mem_act {g : Gs} {n : Nat} {s : S} {i : Nat} : i ∈ act g n s ↔ i < n ∧ wants g s i := by
  unfold act
  rw [List.mem_filter, List.mem_range, decide_eq_true_eq]
theorem act_nil {g : Gs} {n : Nat} {s : S} : act g n s = [] ↔ Quiet g n s := by
  constructor
  · intro e i hi w
    have : i ∈ act g n s := mem_act.mpr ⟨hi, w⟩
    rw [e] at this
    cases this
  · intro q
    cases e : act g n s with
    | nil => rfl
    | cons a l =>
      have : a ∈ act g n s := by rw [e]; exact List.mem_cons_self
      exact absurd (mem_act.mp this).2 (q a (mem_act.mp this).1)
theorem act_nodup (g : Gs) (n : Nat) (s : S) : (act g n s).Nodup := List.nodup_range.filter _
theorem act_le (g : Gs) (n : Nat) (s : S) : (act g n s).length ≤ n := by
  have := List.length_filter_le (fun i => decide (wants g s i)) (List.range n)
  rw [List.length_range] at this
  exact this
theorem act_many (g : Gs) (n : Nat) (s : S) : ((act g n s).length : Int) = many n (wants g s) := by
  unfold act
  induction n with
  | zero => rfl
  | succ n ih =>
    rw [List.range_succ, List.filter_append, List.length_append]
    show _ = many n (wants g s) + if wants g s n then 1 else 0
    rw [← ih]
    by_cases w : wants g s n
    · simp [w]
    · simp [w]
/-- the list behind «for seat in some: had[seat] += many», after j of some -/
def hadOn (h : Nat → Int) (m : Int) (l : List Nat) : Nat → Int := fun i => if i ∈ l then h i + m else h i
theorem hadOn_nil (h : Nat → Int) (m : Int) : hadOn h m [] = h := by
  funext i
  simp [hadOn]
theorem hadOn_snoc {n : Nat} {h : Nat → Int} {m : Int} {l : List Nat} {i : Nat} (hi : i < n) (hl : i ∉ l) : (hadL n (hadOn h m l)).set i (hadOn h m l i + m) = hadL n (hadOn h m (l ++ [i])) := by
  rw [hadL_set _ hi]
  refine hadL_congr fun j _ => ?_
  unfold hadOn
  by_cases e : j = i
  · subst e
    rw [if_pos rfl, if_neg hl, if_pos (by simp)]
  · rw [if_neg e]
    by_cases z : j ∈ l
    · rw [if_pos z, if_pos (by simp [z])]
    · rw [if_neg z, if_neg (by simp [z, e])]
theorem mem_take_at {l : List Nat} (nd : l.Nodup) {j i : Nat} (h : l[j]? = some i) : i ∉ l.take j := by
  intro z
  obtain ⟨j', h1, h2⟩ := List.mem_iff_getElem.mp z
  rw [List.length_take] at h1
  obtain ⟨h3, h4⟩ := List.getElem?_eq_some_iff.mp h
  rw [List.getElem_take] at h2
  have := (List.getElem_inj nd).mp (h2.trans h4.symm)
  omega
end D
namespace Lp
open PySem PySem.Spec PyProof.Rows L2
/-! ### callable names -/
/-- the module's name x may be called, with the promise sp, at level k -/
structure Cal (P : Program) (w : World) (K : PySem.W.Frag) (mg : Str → Option Value) (base : Heap) (k : Nat) (x : Str) (sp : Sp) : Prop where
  ex : ∃ (f : Addr) (fd : FuncData) (ps : List Str), FnOk P w K mg base L2.CX0 k f fd ps sp ∧ mg x = some (.ref f) ∧ PySem.W.keepIn K (.ref f) = true ∧ Binds K fd ps []
section
variable {X : Cx} {k j : Nat} {x : Str} {sp : Sp} {p pos : Pos} {e : Expr} {es : List Expr} {t : TA}
theorem pe_g (c : Cal X.prog X.w X.K X.mg X.base k x sp) (hr : Room j X.A) (ha : PA X (e :: es) t) (hk : k ≤ j := by decide) (hg : Gl X x := by rfl)
    (hdb : (x == ("__debug__" : Str)) = false := by decide) (he : starEach (e :: es) X.env = (false, eval e X.env) :: starEach es X.env := by rfl) (hpl : (backTo pos (starEach es X.env)).any (·.1) = false := by rfl) :
    PE X (.Call (.Name x p) (e :: es) [] pos) (tCall sp [] L2.E0 t) := by
  obtain ⟨f, fd, ps, F, hm, kp, b⟩ := c.ex
  exact pe_call F (hr.mono hk) hg hm kp b .nil L2.pass0 ha hdb he hpl
end
/-- the method m of the class at C -/
structure Met (P : Program) (w : World) (K : PySem.W.Frag) (mg : Str → Option Value) (base : Heap) (k : Nat) (C : Addr) (m : Str) (sp : Sp) : Prop where
  ex : ∃ (f : Addr) (fd : FuncData) (ps : List Str), Cls K C ∧ Meth K C m f ∧ FnOk P w K mg base L2.CX0 k f fd ps sp ∧ Binds K fd ps []
/-- the class x at C may be made; sp: its __init__ -/
structure Mak (P : Program) (w : World) (K : PySem.W.Frag) (mg : Str → Option Value) (base : Heap) (k : Nat) (x : Str) (C : Addr) (sp : Sp) : Prop where
  ex : ∃ (f : Addr) (fd : FuncData) (ps : List Str), Mk K C f ∧ FnOk P w K mg base L2.CX0 k f fd ps sp ∧ mg x = some (.ref C) ∧ Binds K fd ps []
section
variable {X : Cx} {k j : Nat} {C : Addr} {x m : Str} {sp : Sp} {p pos apos : Pos} {e o : Expr} {es : List Expr} {ta : TE} {t : TA}
theorem pe_new (c : Mak X.prog X.w X.K X.mg X.base k x C sp) (hr : Room j X.A) (ha : PA X (e :: es) t) (hk : k + 1 ≤ j := by decide) (hg : Gl X x := by rfl)
    (hdb : (x == ("__debug__" : Str)) = false := by decide) (he : starEach (e :: es) X.env = (false, eval e X.env) :: starEach es X.env := by rfl) (hpl : (backTo pos (starEach es X.env)).any (·.1) = false := by rfl) :
    PE X (.Call (.Name x p) (e :: es) [] pos) (tMake C sp [] L2.E0 t) := by
  obtain ⟨f, fd, ps, M, F, hm, b⟩ := c.ex
  exact pe_make M F (hr.mono hk) hg hm b .nil L2.pass0 ha hdb he hpl
theorem pe_me {pl : Sem Bool} (c : Met X.prog X.w X.K X.mg X.base k C m sp) (hr : Room j X.A) (he : PE X o ta) (ha : PA X (e :: es) t) (hk : k ≤ j := by decide)
    (hst : starEach (e :: es) X.env = (false, eval e X.env) :: starEach es X.env := by rfl) (hpl : (backTo pos (starEach es X.env)).any (·.1) = false := by rfl)
    (ht : eval (.Call (.Attribute o m apos) (e :: es) [] pos) X.env = (eval o X.env >>= fun ov => standAt apos.atName >>= fun _ => holding [ov] (getMethod ov m pl) >>= fun q =>
      callWith pos q.1 q.2 (backTo pos (starEach (e :: es) X.env)) (backToKw pos (keywordEach [] X.env))) := by rfl) :
    PE X (.Call (.Attribute o m apos) (e :: es) [] pos) (tMeth C m sp [] L2.E0 ta t) := by
  obtain ⟨f, fd, ps, hc, hm, F, b⟩ := c.ex
  exact pe_meth (pl := pl) he hc hm F (hr.mono hk) b .nil L2.pass0 ha hst hpl ht
theorem pe_me0 {pl : Sem Bool} (c : Met X.prog X.w X.K X.mg X.base k C m sp) (hr : Room j X.A) (he : PE X o ta) (hk : k ≤ j := by decide)
    (ht : eval (.Call (.Attribute o m apos) [] [] pos) X.env = (eval o X.env >>= fun ov => standAt apos.atName >>= fun _ => holding [ov] (getMethod ov m pl) >>= fun q =>
      callWith pos q.1 q.2 (backTo pos (starEach [] X.env)) (backToKw pos (keywordEach [] X.env))) := by rfl) :
    PE X (.Call (.Attribute o m apos) [] [] pos) (tMeth C m sp [] L2.E0 ta tNil) := by
  obtain ⟨f, fd, ps, hc, hm, F, b⟩ := c.ex
  exact pe_meth0 (pl := pl) he hc hm F (hr.mono hk) b .nil L2.pass0 ht
end
/-- the module's name x, a def of n parameters and the keyword-only one «first», which is 0 where it lacks -/
structure CalK (P : Program) (w : World) (K : PySem.W.Frag) (mg : Str → Option Value) (base : Heap) (k n : Nat) (x : Str) (sp : Sp) : Prop where
  ex : ∃ (f : Addr) (fd : FuncData) (ps : List Str), FnOk P w K mg base L2.CX0 k f fd ps sp ∧ mg x = some (.ref f) ∧ PySem.W.keepIn K (.ref f) = true ∧
    (∃ ds, Vals [.int 0] ds ∧ Binds K fd ps ds) ∧ KBn K fd ps n (["first"] : List Str) (fun us ws => us ++ ws) (fun vs zs => vs ++ zs)
section
variable {X : Cx} {k j n : Nat} {x : Str} {sp : Sp} {p pos : Pos} {e : Expr} {es : List Expr} {kws : List Keyword} {t tk : TA}
/-- without the keyword -/
theorem pe_gd (c : CalK X.prog X.w X.K X.mg X.base k n x sp) (hr : Room j X.A) (ha : PA X (e :: es) t) (hk : k ≤ j := by decide) (hg : Gl X x := by rfl)
    (hdb : (x == ("__debug__" : Str)) = false := by decide) (he : starEach (e :: es) X.env = (false, eval e X.env) :: starEach es X.env := by rfl) (hpl : (backTo pos (starEach es X.env)).any (·.1) = false := by rfl) :
    PE X (.Call (.Name x p) (e :: es) [] pos) (tCall sp [.int 0] L2.E0 t) := by
  obtain ⟨f, fd, ps, F, hm, kp, ⟨ds, vd, b⟩, _⟩ := c.ex
  exact pe_call F (hr.mono hk) hg hm kp b vd L2.pass0 ha hdb he hpl
/-- with it -/
theorem pe_gk (c : CalK X.prog X.w X.K X.mg X.base k n x sp) (hr : Room j X.A) (ha : PA X (e :: es) t) (hkw : PK X kws tk) (hk : k ≤ j := by decide) (hg : Gl X x := by rfl)
    (hall : (backToKw pos (keywordEach kws X.env)).all (·.1.isSome) = true := by rfl) (hks : (backToKw pos (keywordEach kws X.env)).filterMap (·.1) = (["first"] : List Str) := by rfl)
    (hdb : (x == ("__debug__" : Str)) = false := by decide) (he : starEach (e :: es) X.env = (false, eval e X.env) :: starEach es X.env := by rfl)
    (hpl : ((backTo pos (starEach (e :: es) X.env)).any (·.1) || (backToKw pos (keywordEach kws X.env)).any (·.1.isNone)) = false := by rfl) :
    PE X (.Call (.Name x p) (e :: es) kws pos) (tCallN n 1 sp (fun vs zs => vs ++ zs) L2.E0 t tk) := by
  obtain ⟨f, fd, ps, F, hm, kp, _, kb⟩ := c.ex
  exact pe_callN F (hr.mono hk) hg hm kp kb L2.pass0 ha hkw hall hks hdb he hpl
end
/-! ### what the top has written -/
/-- a def without defaults under its name -/
structure DefIn (K : PySem.W.Frag) (mg : Str → Option Value) (x : Str) (st : Stmt) : Prop where
  ex : ∃ (f : Addr) (fd : FuncData), L2.Fun K x x st f fd ∧ mg x = some (.ref f)
/-- a def whose one keyword-only parameter has a default -/
structure DefKw (K : PySem.W.Frag) (mg : Str → Option Value) (x : Str) (st : Stmt) : Prop where
  ex : ∃ (f : Addr) (fd : FuncData), FunD K x x (defArgs st) (defBody st) (defScope st) [] [("first", .int 0)] f fd ∧ mg x = some (.ref f)
/-- a method of the class at C -/
structure MethIn (K : PySem.W.Frag) (C : Addr) (m qual : Str) (st : Stmt) : Prop where
  ex : ∃ (f : Addr) (fd : FuncData), L2.Fun K m qual st f fd ∧ Meth K C m f
theorem defIn_mk {K : PySem.W.Frag} {h : Heap} {mg : Str → Option Value} {x : Str} {st : Stmt} {f : Addr} {oc : Value} {od an : Option Addr} {osl : Array (Option Value)} {kV doc pm cdv ct : Value} (X : K.In h) (G : h.Ns mainGlobals mg)
    (a : PySem.W.nsIn K mainGlobals x = some (some (.ref f)))
    (l : K.lookup f = some ⟨oc, od, .func (PySem.W.fnOf x x (defArgs st) (defBody st) (defScope st) .none kV doc pm an cdv ct), osl⟩)
    (c : PySem.W.codeIn K cdv x = true) (k : PySem.W.keepIn K (.ref f) = true) : DefIn K mg x st :=
  ⟨f, _, fun_mk l c k, PySem.W.mg_of X G a⟩
theorem defKw_mk {K : PySem.W.Frag} {h : Heap} {mg : Str → Option Value} {x : Str} {st : Stmt} {f D : Addr} {oc : Value} {od an : Option Addr} {osl : Array (Option Value)} {doc pm cdv ct u : Value} (X : K.In h) (G : h.Ns mainGlobals mg)
    (a : PySem.W.nsIn K mainGlobals x = some (some (.ref f)))
    (l : K.lookup f = some ⟨oc, od, .func (PySem.W.fnOf x x (defArgs st) (defBody st) (defScope st) .none (.ref D) doc pm an cdv ct), osl⟩)
    (d : PySem.W.nsIn K D "first" = some (some u)) (r : RelV (.int 0) u)
    (c : PySem.W.codeIn K cdv x = true) (k : PySem.W.keepIn K (.ref f) = true) : DefKw K mg x st :=
  ⟨f, _, ⟨⟨oc, od, _, _, doc, pm, an, cdv, ct, osl, rfl, l, c, .inl ⟨rfl, rfl⟩, .inr ⟨D, rfl, fun q hq => by
    rcases List.mem_cons.mp hq with e | hq
    · rw [e]; exact ⟨_, d, r⟩
    · cases hq⟩⟩, k⟩, PySem.W.mg_of X G a⟩
theorem methIn_mk {K : PySem.W.Frag} {C : Addr} {m qual : Str} {st : Stmt} {f : Addr} {oc : Value} {od an : Option Addr} {osl : Array (Option Value)} {kV doc pm cdv ct : Value}
    (a : PySem.W.findIn K (.ref C) m = some (some (.ref f)))
    (l : K.lookup f = some ⟨oc, od, .func (PySem.W.fnOf m qual (defArgs st) (defBody st) (defScope st) .none kV doc pm an cdv ct), osl⟩)
    (i : PySem.W.isFn K (.ref f) = true) (c : PySem.W.codeIn K cdv qual = true) (k : PySem.W.keepIn K (.ref f) = true) : MethIn K C m qual st :=
  ⟨f, _, fun_mk l c k, ⟨a, i, k⟩⟩
/-- the built-in names are the built-in ones -/
structure Bls (mg : Str → Option Value) : Prop where
  isinstance : mg "isinstance" = none
  int : mg "int" = none
  bool : mg "bool" = none
  tuple : mg "tuple" = none
  list : mg "list" = none
  len : mg "len" = none
  all : mg "all" = none
  any : mg "any" = none
  max : mg "max" = none
  min : mg "min" = none
  sum : mg "sum" = none
  range : mg "range" = none
  enumerate : mg "enumerate" = none
  zip : mg "zip" = none
  sorted : mg "sorted" = none
  repr : mg "repr" = none
/-! ### data -/
def tyD : PyData → String
  | .none => "NoneType"
  | .bool _ => "bool"
  | .int _ => "int"
  | .str _ => "str"
  | .list _ => "list"
  | .tuple _ => "tuple"
  | .dict _ => "dict"
theorem tyx {K : PySem.W.Frag} {H : Hp} {v : V} {d : PyData} (h : Dp K H v d) : TyX K H v (.type (tyD d)) := by
  cases h with
  | non => exact .base .non
  | bl b => exact .base (.bl b)
  | int i => exact .base (.int i)
  | str x => exact .base (.str x)
  | lst hs _ =>
    rcases hs with (h | ⟨o, h⟩) | ⟨o, its, n, h, c, _⟩
    · exact .base (.lst h)
    · exact .base (.frz h)
    · exact .kList h c
  | tup hs _ =>
    rcases hs with (h | ⟨o, h⟩) | ⟨o, its, n, h, c, _⟩
    · exact .base (.tup h)
    · exact .fTuple h
    · exact .kTuple h c
/-- isinstance(x, T) of data, T a built-in type -/
def isIntD : PyData → Bool
  | .int _ => true
  | .bool _ => true
  | _ => false
def isBoolD : PyData → Bool
  | .bool _ => true
  | _ => false
def isTupD : PyData → Bool
  | .tuple _ => true
  | _ => false
def isLstD : PyData → Bool
  | .list _ => true
  | _ => false
theorem kit_i (K : PySem.W.Frag) (d : PyData) : PySem.W.kitOne K (.type (tyD d)) (.type "int") = some (isIntD d) := by
  cases d with
  | none => exact kit_ty (show kitB "NoneType" "int" = some false by decide +kernel)
  | bool _ => exact kit_ty (show kitB "bool" "int" = some true by decide +kernel)
  | int _ => exact kit_ty (show kitB "int" "int" = some true by decide +kernel)
  | str _ => exact kit_ty (show kitB "str" "int" = some false by decide +kernel)
  | list _ => exact kit_ty (show kitB "list" "int" = some false by decide +kernel)
  | tuple _ => exact kit_ty (show kitB "tuple" "int" = some false by decide +kernel)
  | dict _ => exact kit_ty (show kitB "dict" "int" = some false by decide +kernel)
theorem kit_b (K : PySem.W.Frag) (d : PyData) : PySem.W.kitOne K (.type (tyD d)) (.type "bool") = some (isBoolD d) := by
  cases d with
  | none => exact kit_ty (show kitB "NoneType" "bool" = some false by decide +kernel)
  | bool _ => exact kit_ty (show kitB "bool" "bool" = some true by decide +kernel)
  | int _ => exact kit_ty (show kitB "int" "bool" = some false by decide +kernel)
  | str _ => exact kit_ty (show kitB "str" "bool" = some false by decide +kernel)
  | list _ => exact kit_ty (show kitB "list" "bool" = some false by decide +kernel)
  | tuple _ => exact kit_ty (show kitB "tuple" "bool" = some false by decide +kernel)
  | dict _ => exact kit_ty (show kitB "dict" "bool" = some false by decide +kernel)
theorem kit_t (K : PySem.W.Frag) (d : PyData) : PySem.W.kitOne K (.type (tyD d)) (.type "tuple") = some (isTupD d) := by
  cases d with
  | none => exact kit_ty (show kitB "NoneType" "tuple" = some false by decide +kernel)
  | bool _ => exact kit_ty (show kitB "bool" "tuple" = some false by decide +kernel)
  | int _ => exact kit_ty (show kitB "int" "tuple" = some false by decide +kernel)
  | str _ => exact kit_ty (show kitB "str" "tuple" = some false by decide +kernel)
  | list _ => exact kit_ty (show kitB "list" "tuple" = some false by decide +kernel)
  | tuple _ => exact kit_ty (show kitB "tuple" "tuple" = some true by decide +kernel)
  | dict _ => exact kit_ty (show kitB "dict" "tuple" = some false by decide +kernel)
theorem kit_l (K : PySem.W.Frag) (d : PyData) : PySem.W.kitOne K (.type (tyD d)) (.type "list") = some (isLstD d) := by
  cases d with
  | none => exact kit_ty (show kitB "NoneType" "list" = some false by decide +kernel)
  | bool _ => exact kit_ty (show kitB "bool" "list" = some false by decide +kernel)
  | int _ => exact kit_ty (show kitB "int" "list" = some false by decide +kernel)
  | str _ => exact kit_ty (show kitB "str" "list" = some false by decide +kernel)
  | list _ => exact kit_ty (show kitB "list" "list" = some true by decide +kernel)
  | tuple _ => exact kit_ty (show kitB "tuple" "list" = some false by decide +kernel)
  | dict _ => exact kit_ty (show kitB "dict" "list" = some false by decide +kernel)
section
variable {X : Cx} {a b : Expr} {ta tb : TE} {p pos : Pos}
/-- isinstance(a, b) -/
theorem pe_isi (B : Bls X.mg) (ha : PE X a ta) (hb : PE X b tb) (hg : Gl X "isinstance" := by rfl) (he : starEach [a, b] X.env = (false, eval a X.env) :: starEach [b] X.env := by rfl) (h2 : starEach [b] X.env = (false, eval b X.env) :: starEach [] X.env := by rfl)
    (hpl : (backTo pos (starEach [b] X.env)).any (·.1) = false := by rfl) : PE X (.Call (.Name "isinstance" p) [a, b] [] pos) (tCB (rIsi X.K) (tCons ta (tCons tb tNil))) :=
  pe_callB call_isi hg B.isinstance (by decide +kernel) (pa_cons ha (pa_cons hb pa_nil h2) he) (by decide) (by decide) he hpl
/-- the name of a built-in type as a value -/
theorem pe_tInt (B : Bls X.mg) (hg : Gl X "int" := by rfl) : PE X (.Name "int" pos) (tC (.ty "int")) := pe_bltn hg B.int (by decide +kernel) rfl
theorem pe_tBool (B : Bls X.mg) (hg : Gl X "bool" := by rfl) : PE X (.Name "bool" pos) (tC (.ty "bool")) := pe_bltn hg B.bool (by decide +kernel) rfl
theorem pe_tTuple (B : Bls X.mg) (hg : Gl X "tuple" := by rfl) : PE X (.Name "tuple" pos) (tC (.ty "tuple")) := pe_bltn hg B.tuple (by decide +kernel) rfl
theorem pe_tList (B : Bls X.mg) (hg : Gl X "list" := by rfl) : PE X (.Name "list" pos) (tC (.ty "list")) := pe_bltn hg B.list (by decide +kernel) rfl
/-- len(a), a a list or a tuple -/
theorem pe_len (B : Bls X.mg) (ha : PE X a ta) (hg : Gl X "len" := by rfl) (he : starEach [a] X.env = (false, eval a X.env) :: starEach [] X.env := by rfl)
    (hpl : (backTo pos (starEach [] X.env)).any (·.1) = false := by rfl) : PE X (.Call (.Name "len" p) [a] [] pos) (tCB (fun xs H Q => ∃ p ys, xs = [.ref p] ∧ (SqL X.K H p ys ∨ SqT X.K H p ys) ∧ Q (.int ys.length) H) (tCons ta tNil)) :=
  pe_callB call_len_seq hg B.len PySem.boot_len (pa_cons ha pa_nil he) (by decide) (by decide) he hpl
end
/-! ### rules of one's own -/
def rGetL (K : PySem.W.Frag) : V → V → Hp → VK → Prop := fun o i H Q => ∃ p xs k v, o = .ref p ∧ i = .int k ∧ SqL K H p xs ∧ 0 ≤ k ∧ xs[k.toNat]? = some v ∧ Q v H
theorem get_list {X : Cx} : PGet X (rGetL X.K) := by
  intro pins s σ H o i ov iv Q I ro ri h
  obtain ⟨p, xs, k, v, rfl, rfl, hq, h0, hx, q⟩ := h
  cases ro
  obtain ⟨t, rfl⟩ := ri
  obtain ⟨its, r, pl, hz⟩ := I.list hq
  obtain ⟨u, eu, ru⟩ := r.get hx
  have hn := line63
  have hlt := (List.getElem?_eq_some_iff.mp hx).1
  exact wpAny_getItem_list pl.isList h0 (by omega) (by simpa using eu) ⟨v, H, I, ru, q⟩
/-! ### heaps -/
theorem same_upd {H : Hp} {p : Addr} {o : HO} (hp : H p = none) : Same H (upd H p o) := fun b u e => by
  rw [upd_ne (ne_of_none e hp)]
  exact e
theorem Same.sqt {K : PySem.W.Frag} {H H' : Hp} {a : Addr} {xs : List V} (e : Same H H') (h : SqT K H a xs) : SqT K H' a xs := by
  rcases h with (h | ⟨o, h⟩) | h
  · exact .inl (.inl (e _ _ h))
  · exact .inl (.inr ⟨o, e _ _ h⟩)
  · exact .inr h
theorem ints_get {ns : List Int} {i : Nat} {y : V} (h : (ns.map V.int)[i]? = some y) : ∃ n, ns[i]? = some n ∧ y = .int n := by
  rw [List.getElem?_map] at h
  cases e : ns[i]? with
  | none => rw [e] at h; cases h
  | some n => rw [e] at h; exact ⟨n, rfl, (Option.some.inj h).symm⟩
theorem map_at {α : Type} {f : α → V} {l : List α} {i : Nat} {a : α} (h : l[i]? = some a) : (l.map f)[i]? = some (f a) := by
  rw [List.getElem?_map, h]
  rfl
end Lp
namespace Lp
open PySem PySem.Spec PyProof.Rows L2
/-! ### == and != of lists of ints, of pairs, of None -/
def flatD : PyData → Bool
  | .none => true
  | .bool _ => true
  | .int _ => true
  | _ => false
theorem flat_lay : ∀ {d : PyData}, flatD d = true → d.canLay0 = true ∧ d.depth = 0
  | .none, _ => ⟨by simp only [PyData.canLay0], by simp only [PyData.depth]⟩
  | .bool _, _ => ⟨by simp only [PyData.canLay0], by simp only [PyData.depth]⟩
  | .int _, _ => ⟨by simp only [PyData.canLay0], by simp only [PyData.depth]⟩
  | .str _, h => by cases h
  | .list _, h => by cases h
  | .tuple _, h => by cases h
  | .dict _, h => by cases h
theorem flats_lay : ∀ {ds : List PyData}, ds.all flatD = true → PyData.canLayAll0 ds = true ∧ PyData.depthAll ds = 0
  | [], _ => ⟨by simp only [PyData.canLayAll0], by simp only [PyData.depthAll]⟩
  | d :: ds, h => by
    rw [List.all_cons, Bool.and_eq_true] at h
    obtain ⟨h1, h2⟩ := flat_lay h.1
    obtain ⟨h3, h4⟩ := flats_lay h.2
    refine ⟨?_, ?_⟩
    · simp only [PyData.canLayAll0, h1, h3]; rfl
    · simp only [PyData.depthAll, h2, h4]; rfl
theorem shaped_flat {d : PyData} (h : flatD d = true) : SeqAt.shaped d = true := by
  obtain ⟨h1, h2⟩ := flat_lay h
  unfold SeqAt.shaped
  rw [h1, h2]
  rfl
theorem shaped_list {ds : List PyData} (h : ds.all flatD = true) : SeqAt.shaped (.list ds) = true := by
  obtain ⟨h1, h2⟩ := flats_lay h
  unfold SeqAt.shaped
  simp only [PyData.canLay0, PyData.depth, h1, h2]
  rfl
theorem shaped_tup {ds : List PyData} (h : ds.all flatD = true) : SeqAt.shaped (.tuple ds) = true := by
  obtain ⟨h1, h2⟩ := flats_lay h
  unfold SeqAt.shaped
  simp only [PyData.canLay0, PyData.depth, h1, h2]
  rfl
def intsD (ns : List Int) : PyData := .list (ns.map .int)
theorem ints_flat (ns : List Int) : (ns.map PyData.int).all flatD = true := by
  rw [List.all_map]
  exact List.all_eq_true.mpr fun _ _ => rfl
theorem shaped_ints (ns : List Int) : SeqAt.shaped (intsD ns) = true := shaped_list (ints_flat ns)
theorem eqvAll_ints : ∀ a b : List Int, PyData.eqvAll (a.map .int) (b.map .int) = decide (a = b)
  | [], [] => by simp [PyData.eqvAll]
  | [], _ :: _ => by simp [PyData.eqvAll]
  | _ :: _, [] => by simp [PyData.eqvAll]
  | x :: a, y :: b => by
    rw [List.map_cons, List.map_cons, PyData.eqvAll, eqvAll_ints a b, PyData.eqv]
    by_cases h : x = y
    · subst h
      simp
    · simp [h]
theorem eqv_ints (a b : List Int) : PyData.eqv (intsD a) (intsD b) = decide (a = b) := by
  unfold intsD
  rw [PyData.eqv]
  exact eqvAll_ints a b
section
variable {K : PySem.W.Frag} {H : Hp}
theorem dpAll_ints : ∀ ns : List Int, DpAll K H (ns.map V.int) (ns.map PyData.int)
  | [] => .nil
  | n :: ns => .cons (.int n) (dpAll_ints ns)
theorem dp_ints {a : Addr} {ns : List Int} (h : SqL K H a (ns.map V.int)) : Dp K H (.ref a) (intsD ns) := .lst h (dpAll_ints ns)
theorem ne_ints {a b : Addr} {ns ms : List Int} {Q : VK} (h1 : SqL K H a (ns.map V.int)) (h2 : SqL K H b (ms.map V.int)) (q : Q (.bl (!decide (ns = ms))) H) : rNeD K (.ref a) (.ref b) H Q :=
  ⟨_, _, dp_ints h1, dp_ints h2, shaped_ints _, shaped_ints _, by rw [eqv_ints]; exact q⟩
theorem eq_ints {a b : Addr} {ns ms : List Int} {Q : VK} (h1 : SqL K H a (ns.map V.int)) (h2 : SqL K H b (ms.map V.int)) (q : Q (.bl (decide (ns = ms))) H) : rEqD K (.ref a) (.ref b) H Q :=
  ⟨_, _, dp_ints h1, dp_ints h2, shaped_ints _, shaped_ints _, by rw [eqv_ints]; exact q⟩
end
end Lp
namespace Lp
open PySem L2
def top (i : Nat) : Stmt := PySem.Challenge.pw_lastpiece_k12_two_tables_by_hand.main.body.getD i (.Pass ⟨0, 0, 0, 0⟩)
abbrev c_DishError : Stmt := top 1
abbrev c_NoTable : Stmt := top 2
abbrev c_NoPair : Stmt := top 3
abbrev s_is_within : Stmt := top 6
abbrev s_is_guest : Stmt := top 7
abbrev s_is_table : Stmt := top 8
abbrev s_need_table : Stmt := top 9
abbrev c_Going : Stmt := top 11
abbrev s_Going_init : Stmt := inClass (top 11) 0
abbrev s_Going_would_take : Stmt := inClass (top 11) 1
abbrev s_Going_rounds : Stmt := inClass (top 11) 2
abbrev s_Going_visit : Stmt := inClass (top 11) 3
abbrev s_Going_go : Stmt := inClass (top 11) 4
abbrev s_rested : Stmt := top 12
abbrev s_is_small : Stmt := top 16
abbrev s_parted : Stmt := top 17
abbrev s_law_cell_at : Stmt := top 19
abbrev s_law_draws : Stmt := top 20
abbrev s_law_bag : Stmt := top 21
abbrev s_law_bags : Stmt := top 22
abbrev s_law_take : Stmt := top 23
abbrev s_law_far_draw : Stmt := top 24
abbrev s_law_table : Stmt := top 25
abbrev s_law_rest : Stmt := top 26
abbrev s_law_with : Stmt := top 27
abbrev s_law_near : Stmt := top 28
abbrev s_law : Stmt := top 29
end Lp
namespace Lp
open PySem PySem.Spec PyProof.Rows L2
/-! ### tables: what is_table tells of data -/
def withinD (lo hi : Int) : PyData → Bool
  | .int i => decide (lo ≤ i) && decide (i ≤ hi)
  | _ => false
def enoughD : PyData → Bool
  | .none => true
  | e => withinD 0 1000000000000000000 e
def guestD : PyData → Bool
  | .tuple [c, e] => withinD 0 1000000000000000000 c && enoughD e
  | _ => false
def tableD : PyData → Bool
  | .tuple gs => decide (1 ≤ gs.length) && decide (gs.length ≤ 8) && gs.all guestD
  | _ => false
def spWithin (K : PySem.W.Frag) : Sp := fun vs H Q _ => ∃ (v : V) (lo hi : Int) (d : PyData), vs = [v, .int lo, .int hi] ∧ Dp K H v d ∧ Q (.bl (withinD lo hi d)) H
def spGuest (K : PySem.W.Frag) : Sp := fun vs H Q _ => ∃ (v : V) (d : PyData), vs = [v] ∧ Dp K H v d ∧ Q (.bl (guestD d)) H
def spTable (K : PySem.W.Frag) : Sp := fun vs H Q _ => ∃ (v : V) (d : PyData), vs = [v] ∧ Dp K H v d ∧ ∀ H', Same H H' → Q (.bl (tableD d)) H'
/-- the module's GREATEST -/
def Greatest (mg : Str → Option Value) : Prop := ∃ v, mg "GREATEST" = some v ∧ RelV (.int 1000000000000000000) v
section
variable {P : Program} {w : World} {K : PySem.W.Frag} {mg : Str → Option Value} {base : Heap}
theorem sc_is_within : FnScope ["thing", "low", "high"] ["thing", "low", "high"] (defScope s_is_within) := ⟨rfl, rfl, rfl, by decide +kernel, rfl, by decide +kernel, by decide +kernel⟩
theorem ok_is_within {f : Addr} {fd : FuncData} (F : L2.Fun K "is_within" "is_within" s_is_within f fd) (B : Bls mg) : FnOk P w K mg base L2.CX0 1 f fd ["thing", "low", "high"] (spWithin K) := by
  refine F.ok sc_is_within (fun vs H Q E h => ?_) (fun cdv A outer s H vs Q E hr h => ?_)
  · obtain ⟨v, lo, hi, d, rfl, _⟩ := h
    rfl
  · obtain ⟨v, lo, hi, d, rfl, hd, k⟩ := h
    refine ⟨_, (pss_one (ps_ret (pe_and (pe_isi B (pv 0) (pe_tInt B)) (pe_and (pe_not (pe_isi B (pv 0) (pe_tBool B))) (pe_one (pe_chain op_le op_le (pv 1) (pv 0) (pv 2))))))), ?_⟩
    refine ⟨_, rfl, ?_⟩
    cases hd with
    | non => 
      refine ⟨_, _, _, _, _, rfl, .ty _, tyx .non, kit_i _ _, ?_⟩
      exact ⟨_, rfl, iteF k⟩
    | str x => 
      refine ⟨_, _, _, _, _, rfl, .ty _, tyx (.str x), kit_i _ _, ?_⟩
      exact ⟨_, rfl, iteF k⟩
    | lst hs ha => 
      refine ⟨_, _, _, _, _, rfl, .ty _, tyx (.lst hs ha), kit_i _ _, ?_⟩
      exact ⟨_, rfl, iteF k⟩
    | tup hs ha => 
      refine ⟨_, _, _, _, _, rfl, .ty _, tyx (.tup hs ha), kit_i _ _, ?_⟩
      exact ⟨_, rfl, iteF k⟩
    | bl b => 
      refine ⟨_, _, _, _, _, rfl, .ty _, tyx (.bl b), kit_i _ _, ?_⟩
      refine ⟨_, rfl, iteT ⟨_, rfl, ?_⟩⟩
      refine ⟨_, _, _, _, _, rfl, .ty _, tyx (.bl b), kit_b _ _, ?_⟩
      exact ⟨_, rfl, _, rfl, iteF k⟩
    | int i =>
      refine ⟨_, _, _, _, _, rfl, .ty _, tyx (.int i), kit_i _ _, ?_⟩
      refine ⟨_, rfl, iteT ⟨_, rfl, ?_⟩⟩
      refine ⟨_, _, _, _, _, rfl, .ty _, tyx (.int i), kit_b _ _, ?_⟩
      refine ⟨_, rfl, _, rfl, iteT ?_⟩
      refine ⟨_, rfl, _, rfl, _, _, rfl, rfl, _, rfl, ?_⟩
      have k' : Q (.bl (decide (lo ≤ i) && decide (i ≤ hi))) H := k
      refine ite2 (fun c => ?_) (fun c => ?_)
      · rw [c, Bool.true_and] at k'
        exact ⟨_, rfl, _, _, rfl, rfl, k'⟩
      · rw [Bool.eq_false_iff.mpr c, Bool.false_and] at k'
        exact k'
theorem sc_is_guest : FnScope ["thing"] ["thing"] (defScope s_is_guest) := ⟨rfl, rfl, rfl, by decide +kernel, rfl, by decide +kernel, by decide +kernel⟩
theorem ok_is_guest {f : Addr} {fd : FuncData} (F : L2.Fun K "is_guest" "is_guest" s_is_guest f fd) (B : Bls mg) (G : Greatest mg) (c_is_within : Cal P w K mg base 1 "is_within" (spWithin K)) : FnOk P w K mg base L2.CX0 2 f fd ["thing"] (spGuest K) := by
  refine F.ok sc_is_guest (fun vs H Q E h => ?_) (fun cdv A outer s H vs Q E hr h => ?_)
  · obtain ⟨v, d, rfl, _⟩ := h
    rfl
  · obtain ⟨v, d, rfl, hd, k⟩ := h
    obtain ⟨gv, h_GREATEST, r_GREATEST⟩ := G
    refine ⟨_, (pss_cons (ps_if (PW.pt (pw_or (pt_not (pt_val (pe_isi B (pv 0) (pe_tTuple B)))) (pw_or (pt_cmpR op_ne (pe_len B (pv 0)) pe_int (nomark _)) (pw_or1 (pt_not (pt_val (pe_g c_is_within hr (pa_cons (pe_ix ix_tup (pv 0) pe_int (fun _ _ => rfl)) (pa_cons pe_int (pa_cons (pe_glob (by rfl) h_GREATEST r_GREATEST) pa_nil))))))))))
      (pss_one (ps_ret pe_bl))
      pss_nil)
      (pss_one (ps_ret (pe_or (pe_cmpR op_isN (pe_ix ix_tup (pv 0) pe_int (fun _ _ => rfl)) pe_non (nomark _)) (pe_one (pe_g c_is_within hr (pa_cons (pe_ix ix_tup (pv 0) pe_int (fun _ _ => rfl)) (pa_cons pe_int (pa_cons (pe_glob (by rfl) h_GREATEST r_GREATEST) pa_nil))))))))), ?_⟩
    refine ⟨_, rfl, ?_⟩
    cases hd with
    | non => 
      refine ⟨_, _, _, _, _, rfl, .ty _, tyx .non, kit_t _ _, ?_⟩
      exact ⟨_, rfl, iteT (iteT k)⟩
    | bl b => 
      refine ⟨_, _, _, _, _, rfl, .ty _, tyx (.bl b), kit_t _ _, ?_⟩
      exact ⟨_, rfl, iteT (iteT k)⟩
    | int i => 
      refine ⟨_, _, _, _, _, rfl, .ty _, tyx (.int i), kit_t _ _, ?_⟩
      exact ⟨_, rfl, iteT (iteT k)⟩
    | str x => 
      refine ⟨_, _, _, _, _, rfl, .ty _, tyx (.str x), kit_t _ _, ?_⟩
      exact ⟨_, rfl, iteT (iteT k)⟩
    | lst hs ha => 
      refine ⟨_, _, _, _, _, rfl, .ty _, tyx (.lst hs ha), kit_t _ _, ?_⟩
      exact ⟨_, rfl, iteT (iteT k)⟩
    | @tup a xs ds hs ha =>
      refine ⟨_, _, _, _, _, rfl, .ty _, tyx (.tup hs ha), kit_t _ _, ?_⟩
      refine ⟨_, rfl, iteF ?_⟩
      refine ⟨_, rfl, a, xs, rfl, .inr hs, rfl, _, rfl, ?_⟩
      cases ha with
      | nil => exact iteT (iteT k)
      | @cons v0 vs0 d0 ds0 h0 ha =>
        cases ha with
        | nil => exact iteT (iteT k)
        | @cons v1 vs1 d1 ds1 h1 ha =>
          cases ha with
          | @cons v2 vs2 d2 ds2 h2 ha =>
            have e : (decide (V.int ((v0 :: v1 :: v2 :: vs2).length : Nat) = V.int 2)) = false := by
              rw [dec_int]
              simp
              omega
            rw [e]
            exact iteT (iteT k)
          | nil =>
            refine iteF ⟨_, rfl, a, _, _, v0, rfl, rfl, hs, rfl, ⟨v0, 0, 1000000000000000000, d0, rfl, h0, ?_⟩⟩
            have k' : Q (.bl (withinD 0 1000000000000000000 d0 && enoughD d1)) H := k
            refine ⟨_, rfl, ?_⟩
            cases ew : withinD 0 1000000000000000000 d0 with
            | false =>
              rw [ew, Bool.false_and] at k'
              exact iteT k'
            | true =>
              rw [ew, Bool.true_and] at k'
              refine iteF ⟨_, rfl, a, _, _, v1, rfl, rfl, hs, rfl, rfl, _, rfl, ?_⟩
              cases h1 with
              | non => exact iteT k'
              | bl b => exact iteF ⟨_, rfl, a, _, _, _, rfl, rfl, hs, rfl, ⟨_, _, _, _, rfl, .bl b, k'⟩⟩
              | int b => exact iteF ⟨_, rfl, a, _, _, _, rfl, rfl, hs, rfl, ⟨_, _, _, _, rfl, .int b, k'⟩⟩
              | str b => exact iteF ⟨_, rfl, a, _, _, _, rfl, rfl, hs, rfl, ⟨_, _, _, _, rfl, .str b, k'⟩⟩
              | lst g1 g2 => exact iteF ⟨_, rfl, a, _, _, _, rfl, rfl, hs, rfl, ⟨_, _, _, _, rfl, .lst g1 g2, k'⟩⟩
              | tup g1 g2 => exact iteF ⟨_, rfl, a, _, _, _, rfl, rfl, hs, rfl, ⟨_, _, _, _, rfl, .tup g1 g2, k'⟩⟩
theorem dp_same {H H' : Hp} (s : Same H H') : (∀ {v : V} {d : PyData}, Dp K H v d → Dp K H' v d) ∧ ∀ {vs : List V} {ds : List PyData}, DpAll K H vs ds → DpAll K H' vs ds := by
  have key : ∀ (n : Nat), (∀ (d : PyData) (v : V), sizeOf d < n → Dp K H v d → Dp K H' v d) ∧ ∀ (ds : List PyData) (vs : List V), sizeOf ds < n → DpAll K H vs ds → DpAll K H' vs ds := by
    intro n
    induction n with
    | zero => exact ⟨fun _ _ h => absurd h (Nat.not_lt_zero _), fun _ _ h => absurd h (Nat.not_lt_zero _)⟩
    | succ n ih =>
      refine ⟨fun d v hn h => ?_, fun ds vs hn h => ?_⟩
      · cases h with
        | non => exact .non
        | bl b => exact .bl b
        | int i => exact .int i
        | str x => exact .str x
        | lst hs ha => exact .lst (s.seq hs) (ih.2 _ _ (by simp only [PyData.list.sizeOf_spec] at hn; omega) ha)
        | tup hs ha => exact .tup (Same.sqt s hs) (ih.2 _ _ (by simp only [PyData.tuple.sizeOf_spec] at hn; omega) ha)
      · cases h with
        | nil => exact .nil
        | cons h1 h2 =>
          simp only [List.cons.sizeOf_spec] at hn
          exact .cons (ih.1 _ _ (by omega) h1) (ih.2 _ _ (by omega) h2)
  exact ⟨fun {v d} h => (key (sizeOf d + 1)).1 d v (Nat.lt_succ_self _) h, fun {vs ds} h => (key (sizeOf ds + 1)).2 ds vs (Nat.lt_succ_self _) h⟩
theorem dpAll_get {H : Hp} : ∀ {vs : List V} {ds : List PyData} {i : Nat} {v : V}, DpAll K H vs ds → vs[i]? = some v → ∃ d, ds[i]? = some d ∧ Dp K H v d
  | _, _, _, _, .nil, e => by simp at e
  | _, _, 0, _, .cons h _, e => by simp at e; subst e; exact ⟨_, rfl, h⟩
  | _, _, i + 1, v, .cons _ h, e => by
    obtain ⟨d, h1, h2⟩ := dpAll_get (i := i) h (by simpa using e)
    exact ⟨d, by simpa using h1, h2⟩
theorem dpAll_len {H : Hp} : ∀ {vs : List V} {ds : List PyData}, DpAll K H vs ds → vs.length = ds.length
  | _, _, .nil => rfl
  | _, _, .cons _ h => congrArg Nat.succ (dpAll_len h)
theorem sc_is_table : FnScope ["thing", "one"] ["thing"] (defScope s_is_table) := ⟨rfl, rfl, rfl, by decide +kernel, rfl, by decide +kernel, by decide +kernel⟩
theorem ok_is_table {f : Addr} {fd : FuncData} (F : L2.Fun K "is_table" "is_table" s_is_table f fd) (B : Bls mg) (c_is_guest : Cal P w K mg base 2 "is_guest" (spGuest K)) : FnOk P w K mg base L2.CX0 3 f fd ["thing"] (spTable K) := by
  refine F.ok sc_is_table (fun vs H Q E h => ?_) (fun cdv A outer s H vs Q E hr h => ?_)
  · obtain ⟨v, d, rfl, _⟩ := h
    rfl
  · obtain ⟨v, d, rfl, hd, k⟩ := h
    have kF : tableD d = false → Q (.bl false) H := fun e => by
      rw [← e]; exact k H (Same.refl H)
    refine ⟨_, (pss_one (ps_ret (pe_and (pe_isi B (pv 0) (pe_tTuple B)) (pe_and (pe_chain op_le op_le pe_int (pe_len B (pv 0)) pe_int) (pe_one (pe_callB (cr_all rfl) (by rfl) B.all (by decide +kernel) (pa_cons (pe_lc (own := [("one", 1)]) (g := gName 1)  (tt := tYes) (by rfl) sc_is_table.nd (pi_tup (pv 0)) (blkOk_by (own := [("one", 1)]) (N := ["thing", "one"]) (sc := defScope s_is_table) (by decide +kernel)) (fun _ _ _ _ _ => by exact (pg_name (i := 1) sc_is_table.nd rfl (Or.inl rfl))) (fun _ _ _ _ _ => by exact pts_nil) (fun _ _ _ _ _ => by exact (pe_g c_is_guest hr (pa_cons (pv 1) pa_nil)))) pa_nil))))))), ?_⟩
    refine ⟨_, rfl, ?_⟩
    cases hd with
    | non => exact ⟨_, _, _, _, _, rfl, .ty _, tyx .non, kit_t _ _, _, rfl, iteF (kF rfl)⟩
    | bl b => exact ⟨_, _, _, _, _, rfl, .ty _, tyx (.bl b), kit_t _ _, _, rfl, iteF (kF rfl)⟩
    | int i => exact ⟨_, _, _, _, _, rfl, .ty _, tyx (.int i), kit_t _ _, _, rfl, iteF (kF rfl)⟩
    | str x => exact ⟨_, _, _, _, _, rfl, .ty _, tyx (.str x), kit_t _ _, _, rfl, iteF (kF rfl)⟩
    | lst hs ha => exact ⟨_, _, _, _, _, rfl, .ty _, tyx (.lst hs ha), kit_t _ _, _, rfl, iteF (kF rfl)⟩
    | @tup a xs ds hs ha =>
      refine ⟨_, _, _, _, _, rfl, .ty _, tyx (.tup hs ha), kit_t _ _, _, rfl, iteT ?_⟩
      have el := dpAll_len ha
      refine ⟨_, rfl, a, xs, rfl, .inr hs, _, _, rfl, rfl, _, rfl, ?_⟩
      refine ite2 (fun c1 => ?_) (fun c1 => ?_)
      · have l1 : 1 ≤ ds.length := by have := of_decide_eq_true c1; omega
        refine ⟨_, _, rfl, rfl, _, rfl, ?_⟩
        refine ite2 (fun c2 => ?_) (fun c2 => ?_)
        · have l2 : ds.length ≤ 8 := by have := of_decide_eq_true c2; omega
          refine ⟨_, rfl, a, rfl, ⟨_, hs⟩, fun D hD => ?_⟩
          refine lc_tup (K := K) (a := a) (xs := xs) (fun i H' => Same H H' ∧ H' D = some (.lst ((ds.take i).map fun d => V.bl (guestD d)))) ⟨same_upd hD, upd_same⟩ (fun i H' _ h => Same.sqt h.1 hs) ?_ ?_
          · rintro i x H' hi ⟨sm, hl⟩
            obtain ⟨d, e1, e2⟩ := dpAll_get ha hi
            refine ⟨rfl, ?_⟩
            have l8 : i < ds.length := by rw [← el]; exact (List.getElem?_eq_some_iff.mp hi).1
            refine ⟨_, rfl, x, d, rfl, (dp_same sm).1 e2, _, hl, by rw [List.length_map, List.length_take]; exact small1000 (by omega), fun b o e => ?_, ?_⟩
            · rw [upd_ne (ne_of_none e hD)]
              exact sm b o e
            · rw [upd_same, List.take_add_one, e1, List.map_append]
              rfl
          · rintro H' ⟨sm, hl⟩
            refine ⟨D, ds.map guestD, rfl, SqL.of ?_, ?_⟩
            · rw [hl, el, List.take_length, List.map_map]
              rfl
            · have e : tableD (.tuple ds) = (ds.map guestD).all id := by
                show (decide (1 ≤ ds.length) && decide (ds.length ≤ 8) && ds.all guestD) = _
                rw [decide_eq_true l1, decide_eq_true l2, List.all_map]
                rfl
              rw [← e]
              exact k H' sm
        · exact kF (by
            show (decide (1 ≤ ds.length) && decide (ds.length ≤ 8) && ds.all guestD) = false
            rw [show decide (ds.length ≤ 8) = false from decide_eq_false (by intro q; exact c2 (decide_eq_true (by omega)))]
            simp)
      · exact ⟨_, rfl, iteF (kF (by
          show (decide (1 ≤ ds.length) && decide (ds.length ≤ 8) && ds.all guestD) = false
          rw [show decide (1 ≤ ds.length) = false from decide_eq_false (by intro q; exact c1 (decide_eq_true (by omega)))]
          simp))⟩
end
end Lp
namespace Lp
open PySem PySem.Spec PyProof.Rows L2
/-! ### tables as data -/
abbrev Guest := Int × Option Int
def optD : Option Int → PyData
  | none => .none
  | some m => .int m
def optV : Option Int → V
  | none => .non
  | some m => .int m
def tabD (t : List Guest) : PyData := .tuple (t.map fun g => .tuple [.int g.1, optD g.2])
def TabOk (t : List Guest) : Prop := 1 ≤ t.length ∧ t.length ≤ 8 ∧ ∀ g ∈ t, 0 ≤ g.1 ∧ g.1 ≤ 1000000000000000000 ∧ ∀ m, g.2 = some m → 0 ≤ m ∧ m ≤ 1000000000000000000
theorem guestD_ok {g : Guest} (h : 0 ≤ g.1 ∧ g.1 ≤ 1000000000000000000 ∧ ∀ m, g.2 = some m → 0 ≤ m ∧ m ≤ 1000000000000000000) : guestD (.tuple [.int g.1, optD g.2]) = true := by
  obtain ⟨c, e⟩ := g
  obtain ⟨h1, h2, h3⟩ := h
  show (decide (0 ≤ c) && decide (c ≤ 1000000000000000000) && enoughD (optD e)) = true
  rw [decide_eq_true h1, decide_eq_true h2]
  cases e with
  | none => rfl
  | some m =>
    obtain ⟨h4, h5⟩ := h3 m rfl
    show (decide (0 ≤ m) && decide (m ≤ 1000000000000000000)) = true
    rw [decide_eq_true h4, decide_eq_true h5]
    rfl
theorem tableD_ok {t : List Guest} (h : TabOk t) : tableD (tabD t) = true := by
  obtain ⟨h1, h2, h3⟩ := h
  show (decide (1 ≤ (t.map _).length) && decide ((t.map _).length ≤ 8) && (t.map _).all guestD) = true
  rw [List.length_map, decide_eq_true h1, decide_eq_true h2, List.all_map]
  exact List.all_eq_true.mpr fun g hg => guestD_ok (h3 g hg)
section
variable {P : Program} {w : World} {K : PySem.W.Frag} {mg : Str → Option Value} {base : Heap}
abbrev TableAt (K : PySem.W.Frag) (H : Hp) (a : Addr) (t : List Guest) : Prop := Dp K H (.ref a) (tabD t)
/-- the guests' tuples -/
theorem TableAt.open {H : Hp} {a : Addr} {t : List Guest} (h : TableAt K H a t) :
    ∃ xs : List V, SqT K H a xs ∧ xs.length = t.length ∧ ∀ (i : Nat) (g : Guest), t[i]? = some g → ∃ p : Addr, xs[i]? = some (.ref p) ∧ SqT K H p [.int g.1, optV g.2] := by
  cases h with
  | @tup _ xs _ hs ha =>
    have hl := dpAll_len ha
    rw [List.length_map] at hl
    refine ⟨xs, hs, hl, fun i g hg => ?_⟩
    have hi : i < xs.length := by rw [hl]; exact (List.getElem?_eq_some_iff.mp hg).1
    obtain ⟨d, h1, h2⟩ := dpAll_get (v := xs[i]) ha (List.getElem?_eq_getElem hi)
    rw [List.getElem?_map, hg] at h1
    obtain rfl := (Option.some.inj h1).symm
    rw [List.getElem?_eq_getElem hi]
    generalize xs[i] = v at h2 ⊢
    cases h2 with
    | @tup p ys _ hp hq =>
      refine ⟨p, rfl, ?_⟩
      cases hq with
      | cons q1 q2 =>
        cases q2 with
        | cons q3 q4 =>
          cases q4
          cases q1
          obtain ⟨c, e⟩ := g
          cases e with
          | none => cases q3; exact hp
          | some m => cases q3; exact hp
theorem TableAt.mk {H : Hp} {a : Addr} {t : List Guest} {ps : List Addr} (h : SqT K H a (ps.map V.ref)) (hl : ps.length = t.length) (hg : ∀ (i : Nat) (g : Guest) (p : Addr), t[i]? = some g → ps[i]? = some p → SqT K H p [.int g.1, optV g.2]) : TableAt K H a t := by
  refine .tup h ?_
  clear h
  induction t generalizing ps with
  | nil =>
    cases ps with
    | nil => exact .nil
    | cons _ _ => simp at hl
  | cons g t ih =>
    cases ps with
    | nil => simp at hl
    | cons p ps =>
      refine .cons (.tup (hg 0 g p rfl rfl) ?_) (ih (by simpa using hl) fun i g' p' h1 h2 => hg (i + 1) g' p' (by simpa using h1) (by simpa using h2))
      obtain ⟨c, e⟩ := g
      cases e with
      | none => exact .cons (.int c) (.cons .non .nil)
      | some m => exact .cons (.int c) (.cons (.int m) .nil)
theorem TableAt.same {H H' : Hp} {a : Addr} {t : List Guest} (h : TableAt K H a t) (s : Same H H') : TableAt K H' a t := (dp_same s).1 h
/-! ### the looks ahead: none refuses what is right -/
def spNeedTable (K : PySem.W.Frag) : Sp := fun vs H Q _ => ∃ (a : Addr) (t : List Guest), vs = [.ref a] ∧ TableAt K H a t ∧ TabOk t ∧ ∀ H', Same H H' → Q .non H'
theorem sc_need_table : FnScope ["table"] ["table"] (defScope s_need_table) := ⟨rfl, rfl, rfl, by decide +kernel, rfl, by decide +kernel, by decide +kernel⟩
theorem ok_need_table {f : Addr} {fd : FuncData} (F : L2.Fun K "need_table" "need_table" s_need_table f fd) (B : Bls mg) (c_is_table : Cal P w K mg base 3 "is_table" (spTable K)) : FnOk P w K mg base L2.CX0 4 f fd ["table"] (spNeedTable K) := by
  refine F.ok sc_need_table (fun vs H Q E h => ?_) (fun cdv A outer s H vs Q E hr h => ?_)
  · obtain ⟨a, t, rfl, _⟩ := h
    rfl
  · obtain ⟨a, t, rfl, hd, ho, k⟩ := h
    refine ⟨_, (pss_one (ps_if (pt_not (pt_val (pe_g c_is_table hr (pa_cons (pv 0) pa_nil))))
      (pss_one ps_never)
      pss_nil)), ?_⟩
    refine ⟨_, rfl, _, _, rfl, hd, fun H' sm => ⟨_, rfl, ?_⟩⟩
    rw [tableD_ok ho]
    exact iteF (k H' sm)
end
end Lp
namespace Lp
open PySem PySem.Spec PyProof.Rows L2
/-! ### the fields of a Going -/
def gfs (a : Addr) (left seat : Int) (l : Addr) (taken visits : Int) : List (Str × V) :=
  [("table", .ref a), ("left", .int left), ("seat", .int seat), ("had", .ref l), ("taken", .int taken), ("visits", .int visits)]
theorem key_look {f : Str} {v : V} {r : List (Str × V)} : List.lookup f ((f, v) :: r) = some v := by simp [List.lookup]
theorem key_skip {f g : Str} {v : V} {r : List (Str × V)} (h : (f == g) = false) : List.lookup f ((g, v) :: r) = List.lookup f r := by simp [List.lookup, h]
section
variable {a l : Addr} {x s k v : Int}
theorem gf_table : (gfs a x s l k v).lookup ("table" : Str) = some (.ref a) := key_look
theorem gf_left : (gfs a x s l k v).lookup ("left" : Str) = some (.int x) := by
  unfold gfs; rw [key_skip (by decide +kernel)]; exact key_look
theorem gf_seat : (gfs a x s l k v).lookup ("seat" : Str) = some (.int s) := by
  unfold gfs; rw [key_skip (by decide +kernel), key_skip (by decide +kernel)]; exact key_look
theorem gf_had : (gfs a x s l k v).lookup ("had" : Str) = some (.ref l) := by
  unfold gfs; rw [key_skip (by decide +kernel), key_skip (by decide +kernel), key_skip (by decide +kernel)]; exact key_look
theorem gf_taken : (gfs a x s l k v).lookup ("taken" : Str) = some (.int k) := by
  unfold gfs; rw [key_skip (by decide +kernel), key_skip (by decide +kernel), key_skip (by decide +kernel), key_skip (by decide +kernel)]; exact key_look
theorem gf_visits : (gfs a x s l k v).lookup ("visits" : Str) = some (.int v) := by
  unfold gfs; rw [key_skip (by decide +kernel), key_skip (by decide +kernel), key_skip (by decide +kernel), key_skip (by decide +kernel), key_skip (by decide +kernel)]; exact key_look
theorem gf_no {m : Str} (h1 : (m == ("table" : Str)) = false) (h2 : (m == ("left" : Str)) = false) (h3 : (m == ("seat" : Str)) = false) (h4 : (m == ("had" : Str)) = false) (h5 : (m == ("taken" : Str)) = false) (h6 : (m == ("visits" : Str)) = false) :
    (gfs a x s l k v).lookup m = none := by
  unfold gfs; rw [key_skip h1, key_skip h2, key_skip h3, key_skip h4, key_skip h5, key_skip h6]; rfl
theorem put_at {f : Str} {y z : V} {r : List (Str × V)} : putF f y ((f, z) :: r) = (f, y) :: r := if_pos rfl
theorem put_on {f g : Str} {y z : V} {r : List (Str × V)} (h : ¬ g = f) : putF f y ((g, z) :: r) = (g, z) :: putF f y r := if_neg h
theorem gp_left (y : Int) : putF "left" (.int y) (gfs a x s l k v) = gfs a y s l k v := by
  unfold gfs; rw [put_on (by decide +kernel), put_at]
theorem gp_seat (y : Int) : putF "seat" (.int y) (gfs a x s l k v) = gfs a x y l k v := by
  unfold gfs; rw [put_on (by decide +kernel), put_on (by decide +kernel), put_at]
theorem gp_taken (y : Int) : putF "taken" (.int y) (gfs a x s l k v) = gfs a x s l y v := by
  unfold gfs; rw [put_on (by decide +kernel), put_on (by decide +kernel), put_on (by decide +kernel), put_on (by decide +kernel), put_at]
theorem gp_visits (y : Int) : putF "visits" (.int y) (gfs a x s l k v) = gfs a x s l k y := by
  unfold gfs; rw [put_on (by decide +kernel), put_on (by decide +kernel), put_on (by decide +kernel), put_on (by decide +kernel), put_on (by decide +kernel), put_at]
theorem gf_made : putF "visits" (.int v) (putF "taken" (.int k) (putF "had" (.ref l) (putF "seat" (.int s) (putF "left" (.int x) (putF "table" (.ref a) []))))) = gfs a x s l k v := by
  have e0 : ∀ (f : Str) (y : V), putF f y [] = [(f, y)] := fun _ _ => rfl
  have e1 : putF "left" (.int x) ([("table", V.ref a)] : List (Str × V)) = ([("table", V.ref a), ("left", V.int x)] : List (Str × V)) := by rw [put_on (by decide +kernel), e0]
  have e2 : putF "seat" (.int s) ([("table", V.ref a), ("left", V.int x)] : List (Str × V)) = ([("table", V.ref a), ("left", V.int x), ("seat", V.int s)] : List (Str × V)) := by rw [put_on (by decide +kernel), put_on (by decide +kernel), e0]
  have e3 : putF "had" (.ref l) ([("table", V.ref a), ("left", V.int x), ("seat", V.int s)] : List (Str × V)) = ([("table", V.ref a), ("left", V.int x), ("seat", V.int s), ("had", V.ref l)] : List (Str × V)) := by
    rw [put_on (by decide +kernel), put_on (by decide +kernel), put_on (by decide +kernel), e0]
  have e4 : putF "taken" (.int k) ([("table", V.ref a), ("left", V.int x), ("seat", V.int s), ("had", V.ref l)] : List (Str × V)) = ([("table", V.ref a), ("left", V.int x), ("seat", V.int s), ("had", V.ref l), ("taken", V.int k)] : List (Str × V)) := by
    rw [put_on (by decide +kernel), put_on (by decide +kernel), put_on (by decide +kernel), put_on (by decide +kernel), e0]
  have e5 : putF "visits" (.int v) ([("table", V.ref a), ("left", V.int x), ("seat", V.int s), ("had", V.ref l), ("taken", V.int k)] : List (Str × V)) = gfs a x s l k v := by
    rw [put_on (by decide +kernel), put_on (by decide +kernel), put_on (by decide +kernel), put_on (by decide +kernel), put_on (by decide +kernel), e0]
    rfl
  rw [e0, e1, e2, e3, e4, e5]
end
/-- what the top says of the class -/
structure GoT (K : PySem.W.Frag) (C : Addr) : Prop where
  cl : Cls K C
  nt : NoAttr K C "table"
  nl : NoAttr K C "left"
  ns : NoAttr K C "seat"
  nh : NoAttr K C "had"
  nk : NoAttr K C "taken"
  nv : NoAttr K C "visits"
/-- behind the heap H0 a Going stands at p over the table at a, its list at l -/
structure GoAt (C : Addr) (H0 H : Hp) (p a dx l : Addr) (left seat : Int) (hs : List Int) (taken visits : Int) : Prop where
  same : Same H0 H
  newp : H0 p = none
  newl : H0 l = none
  ob : H p = some (.ins C dx (gfs a left seat l taken visits))
  ls : H l = some (.lst (hs.map V.int))
section
variable {C : Addr} {H0 H H' : Hp} {p a dx l : Addr} {left seat : Int} {hs : List Int} {taken visits : Int}
theorem GoAt.ne (G : GoAt C H0 H p a dx l left seat hs taken visits) : p ≠ l := ne_of G.ob G.ls (by intro z; cases z)
theorem GoAt.more (G : GoAt C H0 H p a dx l left seat hs taken visits) (s : Same H H') : GoAt C H0 H' p a dx l left seat hs taken visits :=
  ⟨G.same.trans s, G.newp, G.newl, s _ _ G.ob, s _ _ G.ls⟩
theorem upd_kept {p : Addr} {o : HO} (s : Same H0 H) (n : H0 p = none) : Same H0 (upd H p o) := fun b u e => by
  have hb : b ≠ p := fun z => by rw [z, n] at e; cases e
  rw [upd_ne hb]
  exact s b u e
/-- the object's fields change -/
theorem GoAt.fld (G : GoAt C H0 H p a dx l left seat hs taken visits) (left' seat' taken' visits' : Int) : GoAt C H0 (upd H p (.ins C dx (gfs a left' seat' l taken' visits'))) p a dx l left' seat' hs taken' visits' :=
  ⟨upd_kept G.same G.newp, G.newp, G.newl, upd_same, by rw [upd_ne (Ne.symm G.ne)]; exact G.ls⟩
theorem GoAt.setLeft (G : GoAt C H0 H p a dx l left seat hs taken visits) (y : Int) : GoAt C H0 (upd H p (.ins C dx (putF "left" (.int y) (gfs a left seat l taken visits)))) p a dx l y seat hs taken visits := by
  rw [gp_left]; exact G.fld y seat taken visits
theorem GoAt.setSeat (G : GoAt C H0 H p a dx l left seat hs taken visits) (y : Int) : GoAt C H0 (upd H p (.ins C dx (putF "seat" (.int y) (gfs a left seat l taken visits)))) p a dx l left y hs taken visits := by
  rw [gp_seat]; exact G.fld left y taken visits
theorem GoAt.setTaken (G : GoAt C H0 H p a dx l left seat hs taken visits) (y : Int) : GoAt C H0 (upd H p (.ins C dx (putF "taken" (.int y) (gfs a left seat l taken visits)))) p a dx l left seat hs y visits := by
  rw [gp_taken]; exact G.fld left seat y visits
theorem GoAt.setVisits (G : GoAt C H0 H p a dx l left seat hs taken visits) (y : Int) : GoAt C H0 (upd H p (.ins C dx (putF "visits" (.int y) (gfs a left seat l taken visits)))) p a dx l left seat hs taken y := by
  rw [gp_visits]; exact G.fld left seat taken y
theorem GoAt.had (G : GoAt C H0 H p a dx l left seat hs taken visits) (hs' : List Int) : GoAt C H0 (upd H l (.lst (hs'.map V.int))) p a dx l left seat hs' taken visits :=
  ⟨upd_kept G.same G.newl, G.newp, G.newl, by rw [upd_ne G.ne]; exact G.ob, upd_same⟩
end
theorem map_set (l : List Int) (i : Nat) (v : Int) : (l.map V.int).set i (V.int v) = (l.set i v).map V.int := (List.map_set).symm
theorem GoAt.setHad {C : Addr} {H0 H : Hp} {p a dx l : Addr} {left seat : Int} {hs : List Int} {taken visits : Int} (G : GoAt C H0 H p a dx l left seat hs taken visits) (i : Nat) (v : Int) : GoAt C H0 (upd H l (.lst ((hs.map V.int).set i (.int v)))) p a dx l left seat (hs.set i v) taken visits := by
  rw [map_set]; exact G.had _
theorem getD_of {t : List Guest} {i : Nat} {g : Guest} (h : t[i]? = some g) : D.gs t i = g := by
  show t.getD i (0, none) = g
  rw [List.getD_eq_getElem?_getD, h]
  rfl
theorem get_of {t : List Guest} {i : Nat} (h : i < t.length) : t[i]? = some (D.gs t i) := by
  show t[i]? = some (t.getD i (0, none))
  rw [List.getD_eq_getElem?_getD, List.getElem?_eq_getElem h]
  rfl
theorem at_int {l : List Int} {i : Nat} {v : Int} (h : l[i]? = some v) : atI (l.map V.int) (i : Int) = some (V.int v) := atI_nat (map_at h)
theorem ixN_nat {n i : Nat} (h : i < n) : ixN n (i : Int) = some i := by
  unfold ixN
  rw [if_pos (by omega), if_pos (by omega)]
  simp
section
variable {P : Program} {w : World} {K : PySem.W.Frag} {mg : Str → Option Value} {base : Heap} {C : Addr}
/-! ### would_take -/
def spWould (K : PySem.W.Frag) (C : Addr) : Sp := fun vs H Q _ => ∃ (H0 : Hp) (p a dx l : Addr) (t : List Guest) (s : D.S) (se tk vi : Int) (i : Nat), vs = [.ref p, .int i] ∧ GoAt C H0 H p a dx l s.left se (D.hadL t.length s.had) tk vi ∧
  TableAt K H0 a t ∧ i < t.length ∧ Q (.bl (decide (D.wants (D.gs t) s i))) H
theorem sc_Going_would_take : FnScope ["self", "seat", "courtesy", "enough"] ["self", "seat"] (defScope s_Going_would_take) := ⟨rfl, rfl, rfl, by decide +kernel, rfl, by decide +kernel, by decide +kernel⟩
theorem ok_would {f : Addr} {fd : FuncData} (F : L2.Fun K "would_take" "Going.would_take" s_Going_would_take f fd) (T : GoT K C) : FnOk P w K mg base L2.CX0 1 f fd ["self", "seat"] (spWould K C) := by
  refine F.ok sc_Going_would_take (fun vs H Q E h => ?_) (fun cdv A outer s H vs Q E hr h => ?_)
  · obtain ⟨H0, p, a, dx, l, t, s, se, tk, vi, i, rfl, _⟩ := h
    rfl
  · obtain ⟨H0, p, a, dx, l, t, s, se, tk, vi, i, rfl, G, tb, hi, k⟩ := h
    refine ⟨_, (pss_cons (ps_asg (pe_ix ix_tup (pe_fld (pv 0) rfl) (pv 1) (fun _ _ => rfl)) (pg_tup (by rfl) (pgs_cons (pg_name (i := 2) sc_Going_would_take.nd rfl (Or.inl rfl)) (pgs_cons (pg_name (i := 3) sc_Going_would_take.nd rfl (Or.inl rfl)) pgs_nil))))
      (pss_one (ps_ret (pe_and (pe_cmpR op_gt (pe_fld (pv 0) rfl) (pv 2) (nomark _)) (pe_one (pe_or (pe_cmpR op_isN (pv 3) pe_non (nomark _)) (pe_one (pe_cmpR op_lt (pe_ix ix_list (pe_fld (pv 0) rfl) (pv 1) (fun _ _ => rfl)) (pv 3) (nomark _))))))))), ?_⟩
    obtain ⟨xs, hx, hl, hg⟩ := (tb.same G.same).open
    obtain ⟨q, e1, hq⟩ := hg i _ (get_of hi)
    refine ⟨_, rfl, p, C, dx, _, _, rfl, G.ob, T.cl, T.nt, gf_table, _, rfl, a, xs, _, _, rfl, rfl, hx, atI_nat e1, ?_⟩
    refine ⟨q, _, rfl, hq, rfl, _, _, rfl, _, _, rfl, rfl, ?_⟩
    refine ⟨_, rfl, p, C, dx, _, _, rfl, G.ob, T.cl, T.nl, gf_left, _, rfl, _, _, rfl, rfl, _, rfl, ?_⟩
    refine ite2 (fun c1 => ?_) (fun c1 => ?_)
    · have l1 := of_decide_eq_true c1
      refine ⟨_, rfl, rfl, _, rfl, ?_⟩
      cases e : (D.gs t i).2 with
      | none =>
        refine iteT ?_
        have w : D.wants (D.gs t) s i := ⟨l1, fun m em => by rw [e] at em; cases em⟩
        rw [decide_eq_true w] at k
        exact k
      | some m =>
        refine iteF ?_
        refine ⟨_, rfl, p, C, dx, _, _, rfl, G.ob, T.cl, T.nh, gf_had, _, rfl, l, _, _, _, rfl, rfl, SqL.of G.ls, at_int (D.hadL_get s.had hi), _, rfl, _, _, rfl, rfl, ?_⟩
        have ew : decide (D.wants (D.gs t) s i) = decide (s.had i < m) := by
          rw [decide_eq_decide]
          exact ⟨fun w => w.2 m e, fun h => ⟨l1, fun m' em => by rw [e] at em; cases em; exact h⟩⟩
        rw [ew] at k
        exact k
    · have w : ¬ D.wants (D.gs t) s i := fun w => c1 (decide_eq_true w.1)
      rw [decide_eq_false w] at k
      exact k
end
end Lp
namespace Lp
open PySem PySem.Spec PyProof.Rows L2
theorem seat_next (x n : Nat) : (((x % n : Nat) : Int) + 1) % (n : Int) = (((x + 1) % n : Nat) : Int) := by
  have e : (((x % n + 1) % n : Nat) : Int) = ((x % n + 1 : Nat) : Int) % (n : Int) := Int.natCast_emod _ _
  rw [← Nat.mod_add_mod x n 1, e]
  rfl
/-- behind k visits of the dish d over the table t, begun at seat f -/
def GoRun (C : Addr) (H0 H : Hp) (p a dx l : Addr) (t : List Guest) (f : Nat) (d : Int) (k : Nat) : Prop :=
  GoAt C H0 H p a dx l (D.run (D.gs t) t.length f d k).left (((f + k) % t.length : Nat) : Int) (D.hadL t.length (D.run (D.gs t) t.length f d k).had) (d - (D.run (D.gs t) t.length f d k).left) (k : Int)
theorem GoRun.cast {C : Addr} {H0 H : Hp} {p a dx l : Addr} {t : List Guest} {f : Nat} {d : Int} {k : Nat} {x s v y : Int} {hs : List Int} (G : GoAt C H0 H p a dx l x s hs v y)
    (e1 : x = (D.run (D.gs t) t.length f d k).left) (e2 : s = (((f + k) % t.length : Nat) : Int)) (e3 : hs = D.hadL t.length (D.run (D.gs t) t.length f d k).had) (e4 : v = d - (D.run (D.gs t) t.length f d k).left) (e5 : y = (k : Int)) :
    GoRun C H0 H p a dx l t f d k := by
  subst e1 e2 e3 e4 e5
  exact G
section
variable {P : Program} {w : World} {K : PySem.W.Frag} {mg : Str → Option Value} {base : Heap} {C : Addr}
/-! ### visit -/
def spVisit (K : PySem.W.Frag) (C : Addr) : Sp := fun vs H Q _ => ∃ (H0 : Hp) (p a dx l : Addr) (t : List Guest) (f : Nat) (d : Int) (k : Nat), vs = [.ref p] ∧ GoRun C H0 H p a dx l t f d k ∧ TableAt K H0 a t ∧ TabOk t ∧
  ∀ H', GoRun C H0 H' p a dx l t f d (k + 1) → (∀ b o, H b = some o → b ≠ p → b ≠ l → H' b = some o) → Q (.bl (decide (D.wants (D.gs t) (D.run (D.gs t) t.length f d k) ((f + k) % t.length)))) H'
theorem small6 {a l : Addr} {x s k v : Int} : (gfs a x s l k v).length < 1000 := by show 6 < 1000; decide
theorem sc_Going_visit : FnScope ["self", "seat", "takes"] ["self"] (defScope s_Going_visit) := ⟨rfl, rfl, rfl, by decide +kernel, rfl, by decide +kernel, by decide +kernel⟩
theorem ok_visit {f : Addr} {fd : FuncData} (F : L2.Fun K "visit" "Going.visit" s_Going_visit f fd) (T : GoT K C) (B : Bls mg) (m_would_take : Met P w K mg base 1 C "would_take" (spWould K C)) : FnOk P w K mg base L2.CX0 2 f fd ["self"] (spVisit K C) := by
  refine F.ok sc_Going_visit (fun vs H Q E h => ?_) (fun cdv A outer s H vs Q E hr h => ?_)
  · obtain ⟨H0, p, a, dx, l, t, f, d, k, rfl, _⟩ := h
    rfl
  · obtain ⟨H0, p, a, dx, l, t, fs, d, n, rfl, G, tb, ok, k⟩ := h
    have hn : 0 < t.length := ok.1
    have hi : (fs + n) % t.length < t.length := Nat.mod_lt _ hn
    refine ⟨_, (pss_cons (ps_par (i := 1) (j := 2) (by rfl) sc_Going_visit.nd rfl rfl (by decide) rfl rfl (pa_cons (pe_fld (pv 0) rfl) (pa_cons (pe_me m_would_take hr (pv 0) (pa_cons (pe_fld (pv 0) rfl) pa_nil)) pa_nil)) (by rfl))
      (pss_cons (ps_if (pt_val (pv 2))
      (pss_cons (ps_augS (pe_fld (pv 0) rfl) (pv 1) get_list pe_int ip_add set_list)
      (pss_cons (ps_fldaug (pv 0) pe_int in_sub)
      (pss_one (ps_fldaug (pv 0) pe_int in_add))))
      pss_nil)
      (pss_cons (ps_fld (pv 0) (pe_op op_mod (pe_op op_add (pv 1) pe_int) (pe_len B (pe_fld (pv 0) rfl))) rfl)
      (pss_cons (ps_fldaug (pv 0) pe_int in_add)
      (pss_one (ps_ret (pv 2))))))), ?_⟩
    refine ⟨_, rfl, p, C, dx, _, _, rfl, G.ob, T.cl, T.ns, gf_seat, _, rfl, p, dx, _, rfl, G.ob, gf_no (by decide +kernel) (by decide +kernel) (by decide +kernel) (by decide +kernel) (by decide +kernel) (by decide +kernel), ?_⟩
    refine ⟨_, rfl, p, C, dx, _, _, rfl, G.ob, T.cl, T.ns, gf_seat, ?_⟩
    refine ⟨H0, p, a, dx, l, t, _, _, _, _, _, rfl, G, tb, hi, _, _, rfl, ?_⟩
    refine ⟨_, rfl, _, rfl, ?_⟩
    have step : D.run (D.gs t) t.length fs d (n + 1) = D.vis (D.gs t) (D.run (D.gs t) t.length fs d n) ((fs + n) % t.length) := rfl
    by_cases wt : D.wants (D.gs t) (D.run (D.gs t) t.length fs d n) ((fs + n) % t.length)
    · rw [decide_eq_true wt] at k ⊢
      refine iteT ?_
      refine ⟨_, rfl, p, C, dx, _, _, rfl, G.ob, T.cl, T.nh, gf_had, _, rfl, l, _, _, _, rfl, rfl, SqL.of G.ls, Int.natCast_nonneg _, map_at (D.hadL_get _ hi), _, _, rfl, rfl, l, _, _, _, rfl, rfl, G.ls, ixN_nat (by rw [List.length_map, D.hadL_len]; exact hi), ?_⟩
      have G1 := G.setHad ((fs + n) % t.length) ((D.run (D.gs t) t.length fs d n).had ((fs + n) % t.length) + 1)
      refine ⟨_, rfl, p, C, dx, _, _, rfl, G1.ob, T.cl, T.nl, gf_left, _, _, rfl, rfl, dx, _, G1.ob, small6, ?_⟩
      have G2 := G1.setLeft ((D.run (D.gs t) t.length fs d n).left - 1)
      refine ⟨_, rfl, p, C, dx, _, _, rfl, G2.ob, T.cl, T.nk, gf_taken, _, _, rfl, rfl, dx, _, G2.ob, small6, ?_⟩
      have G3 := G2.setTaken (d - (D.run (D.gs t) t.length fs d n).left + 1)
      obtain ⟨xs, hx, hl, _⟩ := (tb.same G3.same).open
      refine ⟨_, rfl, _, _, rfl, rfl, _, rfl, p, C, dx, _, _, rfl, G3.ob, T.cl, T.nt, gf_table, a, xs, rfl, .inr hx, _, _, rfl, rfl, (by rw [hl]; omega), _, rfl, p, C, dx, _, rfl, G3.ob, T.cl, T.ns, small6, ?_⟩
      have G4 := G3.setSeat (((((fs + n) % t.length : Nat) : Int) + 1) % (xs.length : Int))
      refine ⟨_, rfl, p, C, dx, _, _, rfl, G4.ob, T.cl, T.nv, gf_visits, _, _, rfl, rfl, dx, _, G4.ob, small6, ?_⟩
      have G5 := G4.setVisits ((n : Int) + 1)
      refine ⟨_, rfl, k _ (GoRun.cast G5 ?_ ?_ ?_ ?_ rfl) fun b o e h1 h2 => ?_⟩
      · rw [step, D.vis_yes wt]
      · rw [hl, ← Nat.add_assoc]
        exact seat_next _ _
      · rw [step, D.vis_yes wt, D.hadL_bump _ hi]
      · rw [step, D.vis_yes wt]
        show _ = d - ((D.run (D.gs t) t.length fs d n).left - 1)
        omega
      · rw [upd_ne h1, upd_ne h1, upd_ne h1, upd_ne h1, upd_ne h2]
        exact e
    · rw [decide_eq_false wt] at k ⊢
      refine iteF ?_
      obtain ⟨xs, hx, hl, _⟩ := (tb.same G.same).open
      refine ⟨_, rfl, _, _, rfl, rfl, _, rfl, p, C, dx, _, _, rfl, G.ob, T.cl, T.nt, gf_table, a, xs, rfl, .inr hx, _, _, rfl, rfl, (by rw [hl]; omega), _, rfl, p, C, dx, _, rfl, G.ob, T.cl, T.ns, small6, ?_⟩
      have G4 := G.setSeat (((((fs + n) % t.length : Nat) : Int) + 1) % (xs.length : Int))
      refine ⟨_, rfl, p, C, dx, _, _, rfl, G4.ob, T.cl, T.nv, gf_visits, _, _, rfl, rfl, dx, _, G4.ob, small6, ?_⟩
      have G5 := G4.setVisits ((n : Int) + 1)
      refine ⟨_, rfl, k _ (GoRun.cast G5 ?_ ?_ ?_ ?_ rfl) fun b o e h1 h2 => ?_⟩
      · rw [step, D.vis_no wt]
      · rw [hl, ← Nat.add_assoc]
        exact seat_next _ _
      · rw [step, D.vis_no wt]
      · rw [step, D.vis_no wt]
      · rw [upd_ne h1, upd_ne h1]
        exact e
end
end Lp
namespace Lp
open PySem PySem.Spec PyProof.Rows L2
def seatsV (ls : List Nat) : List V := (ls.map fun i : Nat => (i : Int)).map V.int
theorem seatsV_len (ls : List Nat) : (seatsV ls).length = ls.length := by simp [seatsV]
theorem seatsV_get {ls : List Nat} {j : Nat} {y : V} (h : (seatsV ls)[j]? = some y) : ∃ i, ls[j]? = some i ∧ y = .int (i : Int) := by
  obtain ⟨n, h1, h2⟩ := ints_get h
  rw [List.getElem?_map] at h1
  cases e : ls[j]? with
  | none => rw [e] at h1; cases h1
  | some i =>
    rw [e] at h1
    exact ⟨i, rfl, by rw [h2, ← Option.some.inj h1]⟩
section
variable {P : Program} {w : World} {K : PySem.W.Frag} {mg : Str → Option Value} {base : Heap} {C : Addr}
/-! ### rounds -/
def spRounds (K : PySem.W.Frag) (C : Addr) : Sp := fun vs H Q _ => ∃ (H0 : Hp) (p a dx l b : Addr) (t : List Guest) (s : D.S) (se tk vi : Int) (ls : List Nat) (bd : Option Int), vs = [.ref p, .ref b, optV bd] ∧ GoAt C H0 H p a dx l s.left se (D.hadL t.length s.had) tk vi ∧
  TableAt K H0 a t ∧ SqL K H b (seatsV ls) ∧ ls ≠ [] ∧ ls.length ≤ 8 ∧ (∀ i ∈ ls, i < t.length ∧ D.wants (D.gs t) s i) ∧ (∀ b0, bd = some b0 → tk ≤ b0) ∧
  ∀ (m : Nat) (H' : Hp), Same H H' → (∀ i ∈ ls, (D.gs t i).1 ≤ s.left - m * ls.length) → (∀ i ∈ ls, ∀ e, (D.gs t i).2 = some e → s.had i + m ≤ e) → (∀ b0, bd = some b0 → (m : Int) * ls.length ≤ b0 - tk) → Q (.int m) H'
theorem sc_Going_rounds : FnScope ["self", "some", "bound", "many", "found", "seat"] ["self", "some", "bound"] (defScope s_Going_rounds) := ⟨rfl, rfl, rfl, by decide +kernel, rfl, by decide +kernel, by decide +kernel⟩
theorem ok_rounds {f : Addr} {fd : FuncData} (F : L2.Fun K "rounds" "Going.rounds" s_Going_rounds f fd) (T : GoT K C) (B : Bls mg) : FnOk P w K mg base L2.CX0 1 f fd ["self", "some", "bound"] (spRounds K C) := by
  refine F.ok sc_Going_rounds (fun vs H Q E h => ?_) (fun cdv A outer s H vs Q E hr h => ?_)
  · obtain ⟨H0, p, a, dx, l, b, t, s, se, tk, vi, ls, bd, rfl, _⟩ := h
    rfl
  · obtain ⟨H0, p, a, dx, l, b, t, s, se, tk, vi, ls, bd, rfl, G, tb, hb, hne, h8, hw, hbd, k⟩ := h
    refine ⟨_, (pss_cons (ps_set (i := 3) sc_Going_rounds.nd rfl (Or.inl rfl) (pe_len B (pv 1)))
      (pss_cons (ps_set (i := 4) sc_Going_rounds.nd rfl (Or.inl rfl) (pe_lst (pa_cons (pe_op op_fdiv (pe_op op_sub (pe_fld (pv 0) rfl) (pe_callB (cr_max rfl) (by rfl) B.max (by decide +kernel) (pa_cons (pe_lc (own := [("seat", 5)]) (g := gName 5) (te := tOp (rIxT K) (tOp (rIxT K) (tFld K (tVar 0) "table") (tVar 5)) (tC (.int 0)))  (tt := tYes) (by rfl) sc_Going_rounds.nd (pi_list (pv 1)) (blkOk_by (own := [("seat", 5)]) (N := ["self", "some", "bound", "many", "found", "seat"]) (sc := defScope s_Going_rounds) (by decide +kernel)) (fun _ _ _ _ _ => by exact (pg_name (i := 5) sc_Going_rounds.nd rfl (Or.inl rfl))) (fun _ _ _ _ _ => by exact pts_nil) (fun _ _ _ _ _ => by exact (pe_ix ix_tup (pe_ix ix_tup (pe_fld (pv 0) rfl) (pv 5) (fun _ _ => rfl)) pe_int (fun _ _ => rfl)))) pa_nil))) (pv 3)) pa_nil)))
      (pss_cons (ps_for PassesOwn.never rfl (pi_list (pv 1)) (pg_name (i := 5) sc_Going_rounds.nd rfl (Or.inl rfl))
      (pss_one (ps_if (pt_cmpR op_notN (pe_ix ix_tup (pe_ix ix_tup (pe_fld (pv 0) rfl) (pv 5) (fun _ _ => rfl)) pe_int (fun _ _ => rfl)) pe_non (nomark _))
      (pss_one (ps_expr (pe_bm PySem.F.plainAttrs_list PySem.F.slot_list_append PySem.F.type_list_append mt_append (pv 4) (pa_cons (pe_op op_sub (pe_ix ix_tup (pe_ix ix_tup (pe_fld (pv 0) rfl) (pv 5) (fun _ _ => rfl)) pe_int (fun _ _ => rfl)) (pe_ix ix_list (pe_fld (pv 0) rfl) (pv 5) (fun _ _ => rfl))) pa_nil))))
      pss_nil)))
      (pss_cons (ps_if (pt_cmpR op_notN (pv 2) pe_non (nomark _))
      (pss_one (ps_expr (pe_bm PySem.F.plainAttrs_list PySem.F.slot_list_append PySem.F.type_list_append mt_append (pv 4) (pa_cons (pe_op op_fdiv (pe_op op_sub (pv 2) (pe_fld (pv 0) rfl)) (pv 3)) pa_nil))))
      pss_nil)
      (pss_one (ps_ret (pe_callB (cr_min rfl) (by rfl) B.min (by decide +kernel) (pa_cons (pv 4) pa_nil)))))))), ?_⟩
    have hpos : 1 ≤ ls.length := by
      cases ls with
      | nil => exact absurd rfl hne
      | cons _ _ => exact Nat.succ_le_succ (Nat.zero_le _)
    -- many = len(some)
    refine ⟨_, rfl, b, _, rfl, .inl hb, ?_⟩
    -- found = [(left - max([..])) // many]
    refine ⟨_, rfl, p, C, dx, _, _, rfl, G.ob, T.cl, T.nl, gf_left, ?_⟩
    refine ⟨_, rfl, b, rfl, ⟨_, hb⟩, fun D0 hD0 => ?_⟩
    refine lc_list (K := K) (a := b) (xs := seatsV ls) (fun j H' => Same H H' ∧ H' D0 = some (.lst (((ls.take j).map fun i => (D.gs t i).1).map V.int))) ⟨same_upd hD0, upd_same⟩ (fun j H' _ h => h.1.seq hb) ?_ ?_
    · rintro j y H' hj ⟨sm, hl⟩
      obtain ⟨i, hi, rfl⟩ := seatsV_get hj
      have mi : i ∈ ls := List.mem_of_getElem? hi
      obtain ⟨hin, _⟩ := hw i mi
      have G1 := G.more sm
      obtain ⟨xs, hx, hlx, hg⟩ := (tb.same G1.same).open
      obtain ⟨q, e1, hq⟩ := hg i _ (get_of hin)
      refine ⟨rfl, ?_⟩
      refine ⟨_, rfl, p, C, dx, _, _, rfl, G1.ob, T.cl, T.nt, gf_table, _, rfl, a, xs, _, _, rfl, rfl, hx, atI_nat e1, q, _, _, _, rfl, rfl, hq, rfl, _, hl, ?_, fun c o e => ?_, ?_⟩
      · rw [List.length_map, List.length_map, List.length_take]
        exact small1000 (by omega)
      · rw [upd_ne (ne_of_none e hD0)]
        exact sm c o e
      · rw [upd_same, List.take_add_one, hi]
        simp
    rintro H1 ⟨sm1, hl1⟩
    rw [seatsV_len, List.take_length] at hl1
    refine ⟨D0, _, rfl, SqL.of hl1, by rw [List.length_map]; omega, fun M hM hle => ?_⟩
    have leM : ∀ i ∈ ls, (D.gs t i).1 ≤ M := fun i hi => hle _ (List.mem_map.mpr ⟨i, hi, rfl⟩)
    have M0 : M < s.left := by
      obtain ⟨i, hi, e⟩ := List.mem_map.mp hM
      rw [← e]
      exact (hw i hi).2.1
    refine ⟨_, _, rfl, rfl, _, rfl, _, _, rfl, rfl, ⟨by rw [seatsV_len]; omega, by rw [seatsV_len]; omega⟩, by show 1 ≤ sizeLine; decide, fun q hq => ?_⟩
    rw [seatsV_len]
    have x0 : 0 ≤ (s.left - M) / (ls.length : Int) := Int.ediv_nonneg (by omega) (by omega)
    -- for seat in some
    have hb1 : SqL K (upd H1 q (.lst [.int ((s.left - M) / (ls.length : Int))])) b (seatsV ls) := (same_upd hq).seq (sm1.seq hb)
    refine ⟨_, rfl, b, rfl, ⟨_, hb1⟩, for_list (K := K) (a := b) (xs := seatsV ls) (fun j σ H' => ∃ (v : Option V) (ns : List Int), σ = [some (.ref p), some (.ref b), some (optV bd), some (.int (ls.length : Int)), some (.ref q), v] ∧
      (∀ c o, H1 c = some o → H' c = some o) ∧ H' q = some (.lst (ns.map V.int)) ∧ (s.left - M) / (ls.length : Int) ∈ ns ∧ (∀ y ∈ ns, 0 ≤ y) ∧ ns.length ≤ j + 1 ∧ ∀ i ∈ ls.take j, ∀ e, (D.gs t i).2 = some e → e - s.had i ∈ ns)
      ⟨none, [(s.left - M) / (ls.length : Int)], rfl, same_upd hq, upd_same, by simp, by simpa using x0, by simp, by simp⟩ (fun j σ H' _ ⟨_, _, _, h, _⟩ => Same.seq h (sm1.seq hb)) ?_ ?_⟩
    · rintro j y σ H' hj ⟨v, ns, rfl, sm2, hq2, hx, hpos2, hlen, hall⟩
      obtain ⟨i, hi, rfl⟩ := seatsV_get hj
      have mi : i ∈ ls := List.mem_of_getElem? hi
      obtain ⟨hin, wt⟩ := hw i mi
      have jl : j < ls.length := (List.getElem?_eq_some_iff.mp hi).1
      have G1 := (G.more sm1).more sm2
      obtain ⟨xs, hx1, hlx, hg⟩ := (tb.same G1.same).open
      obtain ⟨z, e1, hz⟩ := hg i _ (get_of hin)
      refine ⟨_, rfl, p, C, dx, _, _, rfl, G1.ob, T.cl, T.nt, gf_table, _, rfl, a, xs, _, _, rfl, rfl, hx1, atI_nat e1, z, _, _, _, rfl, rfl, hz, rfl, rfl, _, rfl, ?_⟩
      cases ee : (D.gs t i).2 with
      | none =>
        refine iteF ⟨_, ns, rfl, sm2, hq2, hx, hpos2, by omega, fun i' hi' e he => ?_⟩
        rw [List.take_add_one, hi, List.mem_append] at hi'
        rcases hi' with hi' | hi'
        · exact hall i' hi' e he
        · have : i' = i := by simpa using hi'
          rw [this, ee] at he
          cases he
      | some m =>
        rw [ee] at hz
        refine iteT ?_
        refine ⟨_, rfl, .inl ⟨rfl, _, SqL.of hq2⟩, ?_⟩
        refine ⟨_, rfl, p, C, dx, _, _, rfl, G1.ob, T.cl, T.nt, gf_table, _, rfl, a, xs, _, _, rfl, rfl, hx1, atI_nat e1, z, _, _, _, rfl, rfl, hz, rfl, ?_⟩
        refine ⟨_, rfl, p, C, dx, _, _, rfl, G1.ob, T.cl, T.nh, gf_had, _, rfl, l, _, _, _, rfl, rfl, SqL.of G1.ls, at_int (D.hadL_get s.had hin), _, _, rfl, rfl, q, _, _, rfl, rfl, hq2, by rw [List.length_map]; exact small1000 (by omega), ?_⟩
        refine ⟨_, ns ++ [m - s.had i], rfl, fun c o e => ?_, ?_, by simp [hx], fun y hy => ?_, by rw [List.length_append, List.length_singleton]; omega, fun i' hi' e he => ?_⟩
        · rw [upd_ne (ne_of_none e hq)]
          exact sm2 c o e
        · rw [upd_same, List.map_append]
          rfl
        · rcases List.mem_append.mp hy with hy | hy
          · exact hpos2 y hy
          · have : y = m - s.had i := by simpa using hy
            have := wt.2 m ee
            omega
        · rw [List.take_add_one, hi, List.mem_append] at hi'
          rcases hi' with hi' | hi'
          · exact List.mem_append_left _ (hall i' hi' e he)
          · have e2 : i' = i := by simpa using hi'
            rw [e2, ee] at he
            cases he
            rw [e2]
            exact List.mem_append_right _ (by simp)
    · rintro σ H' ⟨v, ns, rfl, sm2, hq2, hx, hpos2, hlen, hall⟩
      rw [seatsV_len] at hlen
      rw [seatsV_len, List.take_length] at hall
      have nsne : 0 < ns.length := by
        cases ns with
        | nil => cases hx
        | cons _ _ => exact Nat.succ_pos _
      -- what a least one of all is
      have done : ∀ (m : Int) (ns' : List Int) (H2 : Hp), m ∈ ns' → (∀ y ∈ ns', m ≤ y) → (∀ y ∈ ns', 0 ≤ y) → (∀ y ∈ ns, y ∈ ns') → Same H H2 → (∀ b0, bd = some b0 → m * ls.length ≤ b0 - tk) → Q (.int m) H2 := fun m ns' H2 hm hmin h0 hsub hs hb0 => by
        have hm0 := h0 m hm
        obtain ⟨r, rfl⟩ : ∃ r : Nat, m = (r : Int) := ⟨m.toNat, by omega⟩
        refine k r H2 hs (fun i hi => ?_) (fun i hi e he => ?_) hb0
        · have h1 := hmin _ (hsub _ hx)
          have h2 : (r : Int) * ls.length ≤ (s.left - M) / (ls.length : Int) * ls.length := Int.mul_le_mul_of_nonneg_right h1 (by omega)
          have h3 := Int.ediv_mul_le (s.left - M) (b := (ls.length : Int)) (by omega)
          have h4 := leM i hi
          omega
        · have h1 := hmin _ (hsub _ (hall i hi e he))
          omega
      have G1 := (G.more sm1).more sm2
      have sme : Same H H' := sm1.trans sm2
      refine ⟨_, rfl, rfl, _, rfl, ?_⟩
      cases bd with
      | none =>
        refine iteF ?_
        exact ⟨_, rfl, q, ns, rfl, SqL.of hq2, nsne, fun m hm hmin => done m ns H' hm hmin hpos2 (fun _ h => h) sme fun _ h => by cases h⟩
      | some b0 =>
        refine iteT ?_
        have hb0 := hbd b0 rfl
        refine ⟨_, rfl, .inl ⟨rfl, _, SqL.of hq2⟩, ?_⟩
        refine ⟨_, rfl, _, rfl, p, C, dx, _, _, rfl, G1.ob, T.cl, T.nk, gf_taken, _, _, rfl, rfl, _, rfl, _, _, rfl, rfl, ⟨by omega, by omega⟩, q, _, _, rfl, rfl, hq2, by rw [List.length_map]; exact small1000 (by omega), ?_⟩
        have y0 : 0 ≤ (b0 - tk) / (ls.length : Int) := Int.ediv_nonneg (by omega) (by omega)
        refine ⟨_, rfl, q, ns ++ [(b0 - tk) / (ls.length : Int)], rfl, SqL.of (by rw [upd_same, List.map_append]; rfl), by rw [List.length_append]; omega, fun m hm hmin => ?_⟩
        refine done m _ _ hm hmin (fun y hy => ?_) (fun _ h => List.mem_append_left _ h) (fun c o e => ?_) fun b1 e1 => ?_
        · rcases List.mem_append.mp hy with hy | hy
          · exact hpos2 y hy
          · have : y = (b0 - tk) / (ls.length : Int) := by simpa using hy
            omega
        · rw [upd_ne (ne_of_none (sm1 c o e) hq)]
          exact sme c o e
        · cases e1
          have h1 := hmin _ (List.mem_append_right ns (List.mem_singleton.mpr rfl))
          have h2 : m * ls.length ≤ (b0 - tk) / (ls.length : Int) * ls.length := Int.mul_le_mul_of_nonneg_right h1 (by omega)
          have h3 := Int.ediv_mul_le (b0 - tk) (b := (ls.length : Int)) (by omega)
          omega
end
end Lp
namespace Lp
open PySem PySem.Spec PyProof.Rows L2
theorem rep_flat {α : Type} (a : α) : ∀ n : Nat, (List.replicate n [a]).flatten = List.replicate n a
  | 0 => rfl
  | n + 1 => by
    rw [List.replicate_succ, List.replicate_succ, List.flatten_cons, rep_flat a n]
    rfl
section
variable {P : Program} {w : World} {K : PySem.W.Frag} {mg : Str → Option Value} {base : Heap} {C : Addr}
/-! ### Going(table, dish, first) -/
def spInit (K : PySem.W.Frag) (C : Addr) : Sp := fun vs H Q _ => ∃ (p dx a : Addr) (H0 : Hp) (t : List Guest) (f : Nat) (d : Int), vs = [.ref p, .ref a, .int d, .int (f : Int)] ∧ Same H0 H ∧ H0 p = none ∧ H p = some (.ins C dx []) ∧ TableAt K H0 a t ∧ TabOk t ∧ f < t.length ∧
  ∀ (l : Addr) (H' : Hp), GoRun C H0 H' p a dx l t f d 0 → Q .non H'
theorem sc_Going_init : FnScope ["self", "table", "dish", "first"] ["self", "table", "dish", "first"] (defScope s_Going_init) := ⟨rfl, rfl, rfl, by decide +kernel, rfl, by decide +kernel, by decide +kernel⟩
theorem ok_init {f : Addr} {fd : FuncData} (F : L2.Fun K "__init__" "Going.__init__" s_Going_init f fd) (T : GoT K C) (B : Bls mg) : FnOk P w K mg base L2.CX0 1 f fd ["self", "table", "dish", "first"] (spInit K C) := by
  refine F.ok sc_Going_init (fun vs H Q E h => ?_) (fun cdv A outer s H vs Q E hr h => ?_)
  · obtain ⟨p, dx, a, H0, t, f, d, rfl, _⟩ := h
    rfl
  · obtain ⟨p, dx, a, H0, t, fs, d, rfl, s0, p0, hp, tb, ok, hf, k⟩ := h
    refine ⟨_, (pss_cons (ps_fld (pv 0) (pv 1) rfl)
      (pss_cons (ps_fld (pv 0) (pv 2) rfl)
      (pss_cons (ps_fld (pv 0) (pv 3) rfl)
      (pss_cons (ps_fld (pv 0) (pe_op op_rep (pe_lst (pa_cons pe_int pa_nil)) (pe_len B (pv 1))) rfl)
      (pss_cons (ps_fld (pv 0) pe_int rfl)
      (pss_one (ps_fld (pv 0) pe_int rfl))))))), ?_⟩
    have hop : 1 ≤ t.length ∧ t.length ≤ 8 := ⟨ok.1, ok.2.1⟩
    -- table, left, seat
    refine ⟨_, rfl, _, rfl, p, C, dx, _, rfl, hp, T.cl, T.nt, by show 0 < 1000; decide, ?_⟩
    refine ⟨_, rfl, _, rfl, p, C, dx, _, rfl, upd_same, T.cl, T.nl, by show 1 < 1000; decide, ?_⟩
    refine ⟨_, rfl, _, rfl, p, C, dx, _, rfl, upd_same, T.cl, T.ns, Nat.lt_of_le_of_lt (length_putF _ _ _) (by show 1 + 1 < 1000; decide), ?_⟩
    -- had
    have s3 := upd_kept (o := .ins C dx (putF "seat" (.int (fs : Int)) (putF "left" (.int d) (putF "table" (.ref a) [])))) (upd_kept (o := .ins C dx (putF "left" (.int d) (putF "table" (.ref a) []))) (upd_kept (o := .ins C dx (putF "table" (.ref a) [])) s0 p0) p0) p0
    refine ⟨by show 1 ≤ sizeLine; decide, fun z hz => ?_⟩
    have npz : p ≠ z := ne_of_none upd_same hz
    have s4 := s3.trans (same_upd (o := .lst [.int 0]) hz)
    obtain ⟨xs, hx, hl, _⟩ := (tb.same s4).open
    refine ⟨_, rfl, a, xs, rfl, .inr hx, z, _, _, rfl, rfl, upd_same, by omega, by omega, ?_, fun l hlf => ?_⟩
    · show 1 * ((xs.length : Nat) : Int).toNat ≤ sizeLine
      exact Nat.le_of_lt (small1000 (by omega))
    have npl : p ≠ l := ne_of_none (o := .ins C dx (putF "seat" (.int (fs : Int)) (putF "left" (.int d) (putF "table" (.ref a) [])))) (by rw [upd_ne npz, upd_same]) hlf
    have l0 : H0 l = none := s4.free hlf
    refine ⟨_, rfl, p, C, dx, _, rfl, Eq.trans (upd_ne npl) (Eq.trans (upd_ne npz) upd_same), T.cl, T.nh, ?_, ?_⟩
    · exact Nat.lt_of_le_of_lt (Nat.le_trans (length_putF _ _ _) (Nat.succ_le_succ (length_putF _ _ _))) (by show 1 + 1 + 1 < 1000; decide)
    refine ⟨_, rfl, p, C, dx, _, rfl, upd_same, T.cl, T.nk, ?_, ?_⟩
    · exact Nat.lt_of_le_of_lt (Nat.le_trans (length_putF _ _ _) (Nat.succ_le_succ (Nat.le_trans (length_putF _ _ _) (Nat.succ_le_succ (length_putF _ _ _))))) (by show 1 + 1 + 1 + 1 < 1000; decide)
    refine ⟨_, rfl, p, C, dx, _, rfl, upd_same, T.cl, T.nv, ?_, ?_⟩
    · exact Nat.lt_of_le_of_lt (Nat.le_trans (length_putF _ _ _) (Nat.succ_le_succ (Nat.le_trans (length_putF _ _ _) (Nat.succ_le_succ (Nat.le_trans (length_putF _ _ _) (Nat.succ_le_succ (length_putF _ _ _))))))) (by show 1 + 1 + 1 + 1 + 1 < 1000; decide)
    refine k l _ (GoRun.cast (x := d) (s := (fs : Int)) (hs := List.replicate t.length 0) (v := 0) (y := 0) ⟨?_, p0, l0, ?_, ?_⟩ rfl ?_ ?_ ?_ rfl)
    · exact upd_kept (upd_kept (upd_kept (s4.trans (same_upd hlf)) p0) p0) p0
    · rw [upd_same]
      exact congrArg (fun q => some (HO.ins C dx q)) gf_made
    · rw [upd_ne (Ne.symm npl), upd_ne (Ne.symm npl), upd_ne (Ne.symm npl), upd_same]
      show some (HO.lst (List.replicate ((xs.length : Nat) : Int).toNat [V.int 0]).flatten) = _
      rw [Int.toNat_natCast, hl, rep_flat, List.map_replicate]
    · rw [Nat.add_zero, Nat.mod_eq_of_lt hf]
    · exact (D.hadL_zero _).symm
    · show (0 : Int) = d - d
      omega
end
end Lp
namespace Lp
open PySem PySem.Spec PyProof.Rows L2
section
variable {P : Program} {w : World} {K : PySem.W.Frag} {mg : Str → Option Value} {base : Heap} {C : Addr}
/-! ### go -/
abbrev St8 (t : List Guest) (f : Nat) (d : Int) (k : Nat) : D.S := D.run (D.gs t) t.length f d k
def spGo (K : PySem.W.Frag) (C : Addr) : Sp := fun vs H Q _ => ∃ (H0 : Hp) (p a dx l : Addr) (t : List Guest) (f : Nat) (d : Int) (nm : Option Int), vs = [.ref p, optV nm] ∧ GoRun C H0 H p a dx l t f d 0 ∧ TableAt K H0 a t ∧ TabOk t ∧ f < t.length ∧ (∀ b, nm = some b → 1 ≤ b) ∧
  (∀ (k : Nat) (H' : Hp), GoRun C H0 H' p a dx l t f d k → D.Quiet (D.gs t) t.length (St8 t f d k) → (∀ b, nm = some b → d - (St8 t f d k).left < b) → Q .non H') ∧
  (∀ (k : Nat) (q : Addr) (b : Int) (H' : Hp), nm = some b → d - (St8 t f d k).left = b - 1 → d - (St8 t f d (k + 1)).left = b → Same H0 H' → H' q = some (.tup [.int (((f + k) % t.length : Nat) : Int), .int ((k + 1 : Nat) : Int)]) → Q (.ref q) H')
theorem guest_pos {t : List Guest} (ok : TabOk t) (i : Nat) (hi : i < t.length) : 0 ≤ (D.gs t i).1 := (ok.2.2 _ (List.mem_of_getElem? (get_of hi))).1
/-- the list of those who want one: the comprehension's loop -/
theorem act_step {g : D.Gs} {s : D.S} (j : Nat) : ((List.range (j + 1)).filter fun i => decide (D.wants g s i)) = ((List.range j).filter fun i => decide (D.wants g s i)) ++ if D.wants g s j then [j] else [] := by
  rw [List.range_succ, List.filter_append]
  by_cases w : D.wants g s j
  · simp [w]
  · simp [w]
theorem optV_non {o : Option Int} (h : optV o = V.non) : o = none := by
  cases o with
  | none => rfl
  | some _ => cases h
theorem optV_some {o : Option Int} (h : ¬ optV o = V.non) : ∃ b, o = some b := by
  cases o with
  | none => exact absurd rfl h
  | some b => exact ⟨b, rfl⟩
theorem scal_opt (i : Int) (o : Option Int) : scal (.int i) (optV o) = true := by
  cases o <;> rfl
theorem args_if {σ : L2.St} {H : Hp} {nm : Option Int} (h1 : σ[1]? = some (some (optV nm))) {k : List V → Hp → Prop} (h : k [optV (nm.map (· - 1))] H) :
    tCons (tIf (tTest (tOp (fun x y H Q => y = .non ∧ Q (.bl (decide (x = .non))) H) (tVar 1) (tC .non))) (tC .non) (tOp (rI0 fun i j => .int (i - j)) (tVar 1) (tC (.int 1)))) tNil σ H k := by
  refine ⟨_, h1, rfl, _, rfl, ?_⟩
  cases nm with
  | none => exact iteT h
  | some b => exact iteF ⟨_, h1, _, _, rfl, rfl, h⟩
/-- between two turns of the while -/
def GoInv (C : Addr) (H0 : Hp) (p a dx l : Addr) (t : List Guest) (f : Nat) (d : Int) (nm : Option Int) (m : Nat) (σ : L2.St) (H : Hp) : Prop :=
  ∃ (k : Nat) (q : Addr) (v3 v4 v5 : Option V), σ = [some (.ref p), some (optV nm), some (.ref q), v3, v4, v5] ∧ GoRun C H0 H p a dx l t f d k ∧ H q = some (.lst (seatsV (D.act (D.gs t) t.length (St8 t f d k)))) ∧ q ≠ l ∧
    (∀ b, nm = some b → d - (St8 t f d k).left < b) ∧ m = (St8 t f d k).left.toNat
theorem sc_Going_go : FnScope ["self", "number", "some", "seat", "many", "turn"] ["self", "number"] (defScope s_Going_go) := ⟨rfl, rfl, rfl, by decide +kernel, rfl, by decide +kernel, by decide +kernel⟩
theorem ok_go {f : Addr} {fd : FuncData} (F : L2.Fun K "go" "Going.go" s_Going_go f fd) (T : GoT K C) (B : Bls mg) (m_would_take : Met P w K mg base 1 C "would_take" (spWould K C)) (m_rounds : Met P w K mg base 1 C "rounds" (spRounds K C)) (m_visit : Met P w K mg base 2 C "visit" (spVisit K C)) :
    FnOk P w K mg base L2.CX0 3 f fd ["self", "number"] (spGo K C) := by
  refine F.ok sc_Going_go (fun vs H Q E h => ?_) (fun cdv A outer s H vs Q E hr h => ?_)
  · obtain ⟨H0, p, a, dx, l, t, f, d, nm, rfl, _⟩ := h
    rfl
  · obtain ⟨H0, p, a, dx, l, t, fs, d, nm, rfl, G0, tb, ok, hf, hb, kQ, kT⟩ := h
    have hn : 0 < t.length := ok.1
    refine ⟨_, (pss_cons (ps_setLc (i := 2) (own := [("seat", 3)]) (g := gName 3)  (by rfl) sc_Going_go.nd rfl rfl (sw_true rfl rfl rfl (by decide +kernel)) (pi_range1 (by rfl) B.range (pa_cons (pe_len B (pe_fld (pv 0) rfl)) pa_nil)) (blkOk_by (own := [("seat", 3)]) (N := ["self", "number", "some", "seat", "many", "turn"]) (sc := defScope s_Going_go) (by decide +kernel)) (fun _ _ _ _ _ => by exact (pg_name (i := 3) sc_Going_go.nd rfl (Or.inl rfl))) (fun _ _ _ _ _ => by exact pts_one (pt_val (pe_me m_would_take hr (pv 0) (pa_cons (pv 3) pa_nil)))) (fun _ _ _ _ _ => by exact (pv 3)))
      (pss_cons (ps_while PassesOwn.never (pt_cmpR (op_neD hr.units) (pv 2) (pe_lst pa_nil) (nomark _))
      (pss_cons (ps_set (i := 4) sc_Going_go.nd rfl (Or.inl rfl) (pe_me m_rounds hr (pv 0) (pa_cons (pv 2) (pa_cons (pe_ifExp (pt_cmpR op_isN (pv 1) pe_non (nomark _)) pe_non (pe_op op_sub (pv 1) pe_int)) pa_nil))))
      (pss_cons (ps_for PassesOwn.never rfl (pi_list (pv 2)) (pg_name (i := 3) sc_Going_go.nd rfl (Or.inl rfl))
      (pss_one (ps_augS (pe_fld (pv 0) rfl) (pv 3) get_list (pv 4) ip_add set_list)))
      (pss_cons (ps_fldaug (pv 0) (pe_op op_mul (pv 4) (pe_len B (pv 2))) in_sub)
      (pss_cons (ps_fldaug (pv 0) (pe_op op_mul (pv 4) (pe_len B (pv 2))) in_add)
      (pss_cons (ps_fldaug (pv 0) (pe_op op_mul (pv 4) (pe_len B (pe_fld (pv 0) rfl))) in_add)
      (pss_cons (ps_for PassesOwn.never rfl (pi_range1 (by rfl) B.range (pa_cons (pe_len B (pe_fld (pv 0) rfl)) pa_nil)) (pg_name (i := 5) sc_Going_go.nd rfl (Or.inl rfl))
      (pss_cons (ps_set (i := 3) sc_Going_go.nd rfl (Or.inl rfl) (pe_fld (pv 0) rfl))
      (pss_one (ps_if (PW.pt (pw_and (pt_val (pe_me0 m_visit hr (pv 0))) (pw_and1 (pt_cmpR op_eq (pe_fld (pv 0) rfl) (pv 1) (nomark _)))))
      (pss_one (ps_ret (pe_tup (pa_cons (pv 3) (pa_cons (pe_fld (pv 0) rfl) pa_nil)))))
      pss_nil))))
      (pss_one (ps_setLc (i := 2) (own := [("seat", 3)]) (g := gName 3)  (by rfl) sc_Going_go.nd rfl rfl (sw_true rfl rfl rfl (by decide +kernel)) (pi_range1 (by rfl) B.range (pa_cons (pe_len B (pe_fld (pv 0) rfl)) pa_nil)) (blkOk_by (own := [("seat", 3)]) (N := ["self", "number", "some", "seat", "many", "turn"]) (sc := defScope s_Going_go) (by decide +kernel)) (fun _ _ _ _ _ => by exact (pg_name (i := 3) sc_Going_go.nd rfl (Or.inl rfl))) (fun _ _ _ _ _ => by exact pts_one (pt_val (pe_me m_would_take hr (pv 0) (pa_cons (pv 3) pa_nil)))) (fun _ _ _ _ _ => by exact (pv 3)))))))))))
      (pss_one (ps_ret pe_non)))), ?_⟩
    -- some = [..]
    obtain ⟨xs, hx, hl, _⟩ := (tb.same G0.same).open
    have l8 : xs.length ≤ 8 := by rw [hl]; exact ok.2.1
    refine ⟨_, rfl, p, C, dx, _, _, rfl, G0.ob, T.cl, T.nt, gf_table, a, xs, rfl, .inr hx, _, rfl, by omega, by omega, fun D0 hD0 => ?_⟩
    refine lc_range (lo := 0) (n := ((xs.length : Nat) : Int).toNat) (fun j H' => Same H H' ∧ H' D0 = some (.lst (seatsV ((List.range j).filter fun i => decide (D.wants (D.gs t) (St8 t fs d 0) i))))) ⟨same_upd hD0, upd_same⟩ ?_ ?_
    · rintro j H' hj ⟨sm, hl1⟩
      have hjn : j < t.length := by omega
      have G' := GoAt.more G0 sm
      refine ⟨rfl, _, rfl, p, dx, _, rfl, G'.ob, gf_no (by decide +kernel) (by decide +kernel) (by decide +kernel) (by decide +kernel) (by decide +kernel) (by decide +kernel), _, rfl, ?_⟩
      refine ⟨H0, p, a, dx, l, t, _, _, _, _, j, (by rw [Int.zero_add]; rfl), G', tb, hjn, _, rfl, ?_⟩
      by_cases wt : D.wants (D.gs t) (St8 t fs d 0) j
      · rw [decide_eq_true wt]
        refine iteT ⟨_, rfl, _, hl1, ?_, fun b o e => ?_, ?_⟩
        · rw [seatsV_len]
          exact small1000 (Nat.le_trans (List.length_filter_le _ _) (by rw [List.length_range]; have := ok.2.1; omega))
        · rw [upd_ne (ne_of_none e hD0)]
          exact sm b o e
        · rw [upd_same, act_step, if_pos wt, Int.zero_add]
          simp [seatsV]
      · rw [decide_eq_false wt]
        refine iteF ⟨sm, ?_⟩
        rw [hl1, act_step, if_neg wt, List.append_nil]
    rintro H1 ⟨sm, hq0⟩
    rw [Int.toNat_natCast, hl] at hq0
    have nql : D0 ≠ l := fun e => by rw [e, G0.ls] at hD0; cases hD0
    -- while
    refine ⟨GoInv C H0 p a dx l t fs d nm, ⟨_, 0, D0, none, none, none, rfl, GoAt.more G0 sm, hq0, nql, fun b e => ?_, rfl⟩, ?_⟩
    · have := hb b e
      show d - d < b
      omega
    clear hx hl l8 sm hq0 nql hD0
    rintro m0 σ H2 ⟨k, q, v3, v4, v5, rfl, G, hq, hql, hlt, rfl⟩
    refine ⟨_, rfl, Nat.zero_le _, fun z hz => ne_ints (ns := (D.act (D.gs t) t.length (St8 t fs d k)).map fun i : Nat => (i : Int)) (ms := []) (SqL.of ((same_upd hz) _ _ hq)) (SqL.of upd_same) ⟨_, rfl, ?_⟩⟩
    have sz : Same H2 (upd H2 z (.lst [])) := same_upd hz
    by_cases he : D.act (D.gs t) t.length (St8 t fs d k) = []
    · rw [he]
      refine iteF ?_
      exact kQ k _ (GoAt.more G sz) (D.act_nil.mp he) hlt
    have nn : ¬ ((D.act (D.gs t) t.length (St8 t fs d k)).map fun i : Nat => (i : Int)) = [] := fun e => he (List.map_eq_nil_iff.mp e)
    rw [decide_eq_false nn]
    refine iteT ⟨fun σ' H' => ∃ m', m' < (St8 t fs d k).left.toNat ∧ GoInv C H0 p a dx l t fs d nm m' σ' H', fun _ _ h => h, ?_⟩
    -- many = self.rounds(..)
    have G1 := GoAt.more G sz
    have hq1 := sz _ _ hq
    refine ⟨_, rfl, p, dx, _, rfl, G1.ob, gf_no (by decide +kernel) (by decide +kernel) (by decide +kernel) (by decide +kernel) (by decide +kernel) (by decide +kernel), _, rfl, ?_⟩
    refine args_if (nm := nm) rfl ?_
    refine ⟨H0, p, a, dx, l, q, t, St8 t fs d k, _, _, _, _, nm.map (· - 1), rfl, G1, tb, SqL.of hq1, he, Nat.le_trans (D.act_le _ _ _) ok.2.1, fun i hi => D.mem_act.mp hi, fun b0 e => ?_, fun m H3 s3 h1 h2 h3' => ?_⟩
    · cases nm with
      | none => cases e
      | some b =>
        have := hlt b rfl
        have e' : b - 1 = b0 := Option.some.inj e
        show d - (St8 t fs d k).left ≤ b0
        omega
    have h3 : ∀ b, nm = some b → (m : Int) * (D.act (D.gs t) t.length (St8 t fs d k)).length ≤ b - 1 - (d - (St8 t fs d k).left) := fun b e => by
      rw [e] at h3'
      exact h3' _ rfl
    have G3 := GoAt.more G1 s3
    have hq3 := s3 _ _ hq1
    -- for seat in some
    refine ⟨_, rfl, q, rfl, ⟨_, SqL.of hq3⟩, for_list (K := K) (a := q) (xs := seatsV (D.act (D.gs t) t.length (St8 t fs d k))) (fun j σ H' => ∃ (v3 : Option V), σ = [some (.ref p), some (optV nm), some (.ref q), v3, some (.int (m : Int)), v5] ∧
      GoAt C H0 H' p a dx l (St8 t fs d k).left (((fs + k) % t.length : Nat) : Int) (D.hadL t.length (D.hadOn (St8 t fs d k).had m ((D.act (D.gs t) t.length (St8 t fs d k)).take j))) (d - (St8 t fs d k).left) (k : Int) ∧
      H' q = some (.lst (seatsV (D.act (D.gs t) t.length (St8 t fs d k))))) ⟨v3, rfl, by rw [List.take_zero, D.hadOn_nil]; exact G3, hq3⟩ (fun j σ H' _ ⟨_, _, _, h⟩ => SqL.of h) ?_ ?_⟩
    · rintro j y σ H' hj ⟨v3, rfl, G', hq'⟩
      obtain ⟨i, hi, rfl⟩ := seatsV_get hj
      have mi : i ∈ D.act (D.gs t) t.length (St8 t fs d k) := List.mem_of_getElem? hi
      have hin := (D.mem_act.mp mi).1
      refine ⟨_, rfl, p, C, dx, _, _, rfl, G'.ob, T.cl, T.nh, gf_had, _, rfl, l, _, _, _, rfl, rfl, SqL.of G'.ls, Int.natCast_nonneg _, map_at (D.hadL_get _ hin), _, rfl, _, _, rfl, rfl, l, _, _, _, rfl, rfl, G'.ls, ixN_nat (by rw [List.length_map, D.hadL_len]; exact hin), ?_⟩
      have G'' := G'.setHad i (D.hadOn (St8 t fs d k).had m ((D.act (D.gs t) t.length (St8 t fs d k)).take j) i + m)
      rw [D.hadOn_snoc hin (D.mem_take_at (D.act_nodup _ _ _) hi)] at G''
      refine ⟨_, rfl, ?_, by rw [upd_ne hql]; exact hq'⟩
      rw [List.take_add_one, hi]
      exact G''
    rintro σ H4 ⟨v3', rfl, G4, hq4⟩
    rw [seatsV_len, List.take_length] at G4
    have hal := D.act_many (D.gs t) t.length (St8 t fs d k)
    have ha8 : (D.act (D.gs t) t.length (St8 t fs d k)).length ≤ 8 := Nat.le_trans (D.act_le _ _ _) ok.2.1
    -- left, taken, visits
    refine ⟨_, rfl, p, C, dx, _, _, rfl, G4.ob, T.cl, T.nl, gf_left, _, rfl, _, rfl, q, _, rfl, .inl (SqL.of hq4), _, _, rfl, rfl, .inr ⟨by omega, by rw [seatsV_len]; omega⟩, _, _, rfl, rfl, dx, _, G4.ob, small6, ?_⟩
    have G5 := G4.setLeft ((St8 t fs d k).left - (m : Int) * ((seatsV (D.act (D.gs t) t.length (St8 t fs d k))).length : Int))
    have npq : q ≠ p := ne_of hq4 G4.ob (by intro z; cases z)
    refine ⟨_, rfl, p, C, dx, _, _, rfl, G5.ob, T.cl, T.nk, gf_taken, _, rfl, _, rfl, q, _, rfl, .inl (SqL.of (by rw [upd_ne npq]; exact hq4)), _, _, rfl, rfl, .inr ⟨by omega, by rw [seatsV_len]; omega⟩, _, _, rfl, rfl, dx, _, G5.ob, small6, ?_⟩
    have G6 := G5.setTaken (d - (St8 t fs d k).left + (m : Int) * ((seatsV (D.act (D.gs t) t.length (St8 t fs d k))).length : Int))
    obtain ⟨xs, hx, hl, _⟩ := (tb.same G6.same).open
    have l8 : xs.length ≤ 8 := by rw [hl]; exact ok.2.1
    refine ⟨_, rfl, p, C, dx, _, _, rfl, G6.ob, T.cl, T.nv, gf_visits, _, rfl, _, rfl, p, C, dx, _, _, rfl, G6.ob, T.cl, T.nt, gf_table, a, xs, rfl, .inr hx, _, _, rfl, rfl, .inr ⟨by omega, by omega⟩, _, _, rfl, rfl, dx, _, G6.ob, small6, ?_⟩
    have G7 := G6.setVisits ((k : Int) + (m : Int) * (xs.length : Int))
    have sk := D.skip (g := D.gs t) (n := t.length) (f := fs) (d := d) (k := k) hn m (fun i hi w => by rw [← hal]; exact h1 i (D.mem_act.mpr ⟨hi, w⟩)) (fun i hi w => h2 i (D.mem_act.mpr ⟨hi, w⟩))
    rw [← hal] at sk
    have G8 : GoRun C H0 _ p a dx l t fs d (k + m * t.length) := GoRun.cast G7 (by rw [seatsV_len]; exact sk.2.symm) (by rw [← Nat.add_assoc, Nat.add_mul_mod_self_right]) (D.hadL_congr fun i hi => by
      rw [sk.1 i hi]
      unfold D.hadOn
      by_cases w : D.wants (D.gs t) (St8 t fs d k) i
      · rw [if_pos (D.mem_act.mpr ⟨hi, w⟩), if_pos w]
      · rw [if_neg fun z => w (D.mem_act.mp z).2, if_neg w]
        exact (Int.add_zero _).symm) (by rw [seatsV_len, sk.2]; show d - (St8 t fs d k).left + _ = d - ((St8 t fs d k).left - _); omega) (by rw [hl]; push_cast; rfl)
    have lt8 : ∀ b, nm = some b → d - (St8 t fs d (k + m * t.length)).left < b := fun b e => by
      have e3 := h3 b e
      have e4 : (St8 t fs d (k + m * t.length)).left = (St8 t fs d k).left - m * ((D.act (D.gs t) t.length (St8 t fs d k)).length : Int) := sk.2
      omega
    -- for turn in range(..)
    obtain ⟨xs2, hx2, hl2, _⟩ := (tb.same G8.same).open
    have l82 : xs2.length ≤ 8 := by rw [hl2]; exact ok.2.1
    refine ⟨_, rfl, p, C, dx, _, _, rfl, G8.ob, T.cl, T.nt, gf_table, a, xs2, rfl, .inr hx2, _, rfl, by omega, by omega, for_range (lo := 0) (n := ((xs2.length : Nat) : Int).toNat) (fun j σ H' => ∃ (v3 v5 : Option V), σ = [some (.ref p), some (optV nm), some (.ref q), v3, some (.int (m : Int)), v5] ∧
      GoRun C H0 H' p a dx l t fs d (k + m * t.length + j) ∧ ∀ b, nm = some b → d - (St8 t fs d (k + m * t.length + j)).left < b) ⟨_, _, rfl, G8, lt8⟩ ?_ ?_⟩
    · rintro j σ H' hj ⟨v3, v5, rfl, G', hlt'⟩
      refine ⟨_, rfl, p, C, dx, _, _, rfl, G'.ob, T.cl, T.ns, gf_seat, ?_⟩
      refine ⟨_, rfl, p, dx, _, rfl, G'.ob, gf_no (by decide +kernel) (by decide +kernel) (by decide +kernel) (by decide +kernel) (by decide +kernel) (by decide +kernel), ?_⟩
      refine ⟨H0, p, a, dx, l, t, fs, d, k + m * t.length + j, rfl, G', tb, ok, fun H9 G9 kp => ⟨_, rfl, ?_⟩⟩
      have stp : St8 t fs d (k + m * t.length + j + 1) = D.vis (D.gs t) (St8 t fs d (k + m * t.length + j)) ((fs + (k + m * t.length + j)) % t.length) := rfl
      by_cases wt : D.wants (D.gs t) (St8 t fs d (k + m * t.length + j)) ((fs + (k + m * t.length + j)) % t.length)
      · rw [decide_eq_true wt]
        have el : (St8 t fs d (k + m * t.length + j + 1)).left = (St8 t fs d (k + m * t.length + j)).left - 1 := by rw [stp, D.vis_yes wt]
        refine iteT ⟨_, rfl, p, C, dx, _, _, rfl, G9.ob, T.cl, T.nk, gf_taken, _, rfl, scal_opt _ _, _, rfl, ?_⟩
        refine ite2 (fun c => ?_) (fun c => ?_)
        · have ec := of_decide_eq_true c
          obtain ⟨b, hb'⟩ := optV_some (o := nm) fun e => by rw [e] at ec; cases ec
          rw [hb'] at ec
          have eb : d - (St8 t fs d (k + m * t.length + j + 1)).left = b := V.int.inj ec
          refine ⟨_, rfl, _, rfl, p, C, dx, _, _, rfl, G9.ob, T.cl, T.nv, gf_visits, by show 2 ≤ sizeLine; decide, fun r hr => ?_⟩
          exact kT _ r b _ hb' (by omega) eb (G9.same.trans (same_upd hr)) upd_same
        · refine ⟨_, _, rfl, G9, fun b e => ?_⟩
          have h7 := hlt' b e
          have : d - (St8 t fs d (k + m * t.length + j + 1)).left ≠ b := fun z => c (decide_eq_true (by rw [e]; exact congrArg V.int z))
          show d - (St8 t fs d (k + m * t.length + j + 1)).left < b
          omega
      · rw [decide_eq_false wt]
        refine iteF ⟨_, _, rfl, G9, fun b e => ?_⟩
        have h7 := hlt' b e
        show d - (St8 t fs d (k + m * t.length + j + 1)).left < b
        rw [stp, D.vis_no wt]
        exact h7
    rintro σ H7 ⟨v3'', v5'', rfl, G7', hlt7⟩
    rw [Int.toNat_natCast, hl2] at G7' hlt7
    -- some = [..]
    clear hx hl l8
    obtain ⟨xs, hx, hl, _⟩ := (tb.same G7'.same).open
    have l8 : xs.length ≤ 8 := by rw [hl]; exact ok.2.1
    refine ⟨_, rfl, p, C, dx, _, _, rfl, G7'.ob, T.cl, T.nt, gf_table, a, xs, rfl, .inr hx, _, rfl, by omega, by omega, fun D0 hD0 => ?_⟩
    refine lc_range (lo := 0) (n := ((xs.length : Nat) : Int).toNat) (fun j H' => Same H7 H' ∧ H' D0 = some (.lst (seatsV ((List.range j).filter fun i => decide (D.wants (D.gs t) (St8 t fs d (k + m * t.length + t.length)) i))))) ⟨same_upd hD0, upd_same⟩ ?_ ?_
    · rintro j H' hj ⟨sm, hl1⟩
      have hjn : j < t.length := by omega
      have G' := GoAt.more G7' sm
      refine ⟨rfl, _, rfl, p, dx, _, rfl, G'.ob, gf_no (by decide +kernel) (by decide +kernel) (by decide +kernel) (by decide +kernel) (by decide +kernel) (by decide +kernel), _, rfl, ?_⟩
      refine ⟨H0, p, a, dx, l, t, _, _, _, _, j, (by rw [Int.zero_add]; rfl), G', tb, hjn, _, rfl, ?_⟩
      by_cases wt : D.wants (D.gs t) (St8 t fs d (k + m * t.length + t.length)) j
      · rw [decide_eq_true wt]
        refine iteT ⟨_, rfl, _, hl1, ?_, fun b o e => ?_, ?_⟩
        · rw [seatsV_len]
          exact small1000 (Nat.le_trans (List.length_filter_le _ _) (by rw [List.length_range]; have := ok.2.1; omega))
        · rw [upd_ne (ne_of_none e hD0)]
          exact sm b o e
        · rw [upd_same, act_step, if_pos wt, Int.zero_add]
          simp [seatsV]
      · rw [decide_eq_false wt]
        refine iteF ⟨sm, ?_⟩
        rw [hl1, act_step, if_neg wt, List.append_nil]
    rintro H8 ⟨sm, hq0⟩
    rw [Int.toNat_natCast, hl] at hq0
    -- a piece was taken
    have nq : ¬ D.Quiet (D.gs t) t.length (St8 t fs d k) := fun z => he (D.act_nil.mpr z)
    have less : (St8 t fs d (k + m * t.length + t.length)).left < (St8 t fs d k).left := by
      cases m with
      | zero =>
        rw [Nat.zero_mul, Nat.add_zero]
        exact D.progress hn nq
      | succ m =>
        have e1 := D.run_left_le (g := D.gs t) (n := t.length) (f := fs) (d := d) (k + (m + 1) * t.length) t.length
        have e2 : (St8 t fs d (k + (m + 1) * t.length)).left = (St8 t fs d k).left - ((m + 1 : Nat) : Int) * ((D.act (D.gs t) t.length (St8 t fs d k)).length : Int) := sk.2
        have e3 : 1 ≤ (D.act (D.gs t) t.length (St8 t fs d k)).length := by
          cases ee : D.act (D.gs t) t.length (St8 t fs d k) with
          | nil => exact absurd ee he
          | cons _ _ => exact Nat.succ_le_succ (Nat.zero_le _)
        have e4 : (1 : Int) * 1 ≤ ((m + 1 : Nat) : Int) * ((D.act (D.gs t) t.length (St8 t fs d k)).length : Int) := Int.mul_le_mul (by omega) (by omega) (by omega) (by omega)
        have e5 : (St8 t fs d (k + (m + 1) * t.length + t.length)).left ≤ (St8 t fs d (k + (m + 1) * t.length)).left := e1
        omega
    have pos : 0 < (St8 t fs d k).left := by
      cases ee : D.act (D.gs t) t.length (St8 t fs d k) with
      | nil => exact absurd ee he
      | cons i _ =>
        have mi := D.mem_act.mp (show i ∈ D.act (D.gs t) t.length (St8 t fs d k) by rw [ee]; exact List.mem_cons_self)
        have := mi.2.1
        have := guest_pos ok i mi.1
        omega
    exact ⟨(St8 t fs d (k + m * t.length + t.length)).left.toNat, by omega, k + m * t.length + t.length, D0, _, _, _, rfl, GoAt.more G7' sm, hq0, (fun e => by rw [e, G7'.ls] at hD0; cases hD0), hlt7, rfl⟩
end
/-- how the dish rests -/
abbrev Fin (t : List Guest) (f : Nat) (d : Int) : D.S := D.fin (D.gs t) t.length f d
/-- the shares of the rest -/
abbrev finL (t : List Guest) (f : Nat) (d : Int) : List Int := D.hadL t.length (Fin t f d).had
theorem fin_at {t : List Guest} {f : Nat} {d : Int} {k : Nat} (ok : TabOk t) (hd : 0 ≤ d) (q : D.Quiet (D.gs t) t.length (St8 t f d k)) : St8 t f d k = Fin t f d :=
  D.fin_of ok.1 (fun i hi => guest_pos ok i hi) hd q
theorem same_made {H : Hp} {x dx C : Addr} (nx : H x = none) (nd : H dx = none) : Same H (upd (upd H dx (.own x)) x (.ins C dx [])) := fun b o e => by
  rw [upd_ne (ne_of_none e nx), upd_ne (ne_of_none e nd)]
  exact e
end Lp
namespace Lp
open PySem PySem.Spec PyProof.Rows L2
section
variable {P : Program} {w : World} {K : PySem.W.Frag} {mg : Str → Option Value} {base : Heap} {C : Addr}
/-! ### rested -/
def spRested (K : PySem.W.Frag) : Sp := fun vs H Q _ => ∃ (a : Addr) (t : List Guest) (f : Nat) (d : Int), vs = [.ref a, .int d, .int (f : Int)] ∧ TableAt K H a t ∧ TabOk t ∧ f < t.length ∧ 0 ≤ d ∧
  ∀ (q l : Addr) (H' : Hp), Same H H' → H l = none → H' q = some (.tup [.ref l, .int (Fin t f d).left]) → H' l = some (.lst ((finL t f d).map V.int)) → Q (.ref q) H'
theorem sc_rested : FnScope ["table", "dish", "first", "going"] ["table", "dish", "first"] (defScope s_rested) := ⟨rfl, rfl, rfl, by decide +kernel, rfl, by decide +kernel, by decide +kernel⟩
theorem ok_rested {f : Addr} {fd : FuncData} (F : L2.Fun K "rested" "rested" s_rested f fd) (T : GoT K C) (n_Going : Mak P w K mg base 1 "Going" C (spInit K C)) (m_go : Met P w K mg base 3 C "go" (spGo K C)) :
    FnOk P w K mg base L2.CX0 4 f fd ["table", "dish", "first"] (spRested K) := by
  refine F.ok sc_rested (fun vs H Q E h => ?_) (fun cdv A outer s H vs Q E hr h => ?_)
  · obtain ⟨a, t, f, d, rfl, _⟩ := h
    rfl
  · obtain ⟨a, t, fs, d, rfl, tb, ok, hf, hd, k⟩ := h
    refine ⟨_, (pss_cons (ps_set (i := 3) sc_rested.nd rfl (Or.inl rfl) (pe_new n_Going hr (pa_cons (pv 0) (pa_cons (pv 1) (pa_cons (pv 2) pa_nil)))))
      (pss_cons (ps_expr (pe_me m_go hr (pv 3) (pa_cons pe_non pa_nil)))
      (pss_one (ps_ret (pe_tup (pa_cons (pe_fld (pv 3) rfl) (pa_cons (pe_fld (pv 3) rfl) pa_nil))))))), ?_⟩
    refine ⟨_, rfl, _, rfl, _, rfl, fun x dx nx ndx nex => ?_⟩
    refine ⟨x, dx, a, H, t, fs, d, rfl, same_made nx ndx, nx, upd_same, tb, ok, hf, fun l H1 G => ⟨rfl, ?_⟩⟩
    refine ⟨_, rfl, x, dx, _, rfl, G.ob, gf_no (by decide +kernel) (by decide +kernel) (by decide +kernel) (by decide +kernel) (by decide +kernel) (by decide +kernel), ?_⟩
    refine ⟨H, x, a, dx, l, t, fs, d, none, rfl, G, tb, ok, hf, (fun b e => by cases e), fun n H2 G2 qt _ => ?_, fun n q b H2 e => by cases e⟩
    have e := fin_at ok hd qt
    refine ⟨_, rfl, x, C, dx, _, _, rfl, G2.ob, T.cl, T.nh, gf_had, _, rfl, x, C, dx, _, _, rfl, G2.ob, T.cl, T.nl, gf_left, by show 2 ≤ sizeLine; decide, fun r hrr => ?_⟩
    have gl := G2.ls
    have e' : D.run (D.gs t) t.length fs d n = Fin t fs d := e
    rw [e'] at gl
    rw [e']
    exact k r l _ (G2.same.trans (same_upd hrr)) G2.newl upd_same (same_upd hrr _ _ gl)
end
end Lp
namespace Lp
open PySem PySem.Spec PyProof.Rows L2
/-! ### heaps in which bags turn -/
/-- all stands as it was, but that a bag's place (a list [draws, place]) may be another -/
def Evo (H H' : Hp) : Prop := ∀ a o, H a = some o → H' a = some o ∨ ∃ (l : Addr) (i j : Int), o = .lst [.ref l, .int i] ∧ H' a = some (.lst [.ref l, .int j]) ∧ (0 ≤ i → 0 ≤ j)
theorem Evo.refl (H : Hp) : Evo H H := fun _ _ h => .inl h
theorem Evo.trans {H H1 H2 : Hp} (e1 : Evo H H1) (e2 : Evo H1 H2) : Evo H H2 := fun a o h => by
  rcases e1 a o h with h1 | ⟨l, i, j, rfl, h1, p1⟩
  · exact e2 a o h1
  · rcases e2 a _ h1 with h2 | ⟨l', i', j', q, h2, p2⟩
    · exact .inr ⟨l, i, j, rfl, h2, p1⟩
    · cases q
      exact .inr ⟨l, i, j', rfl, h2, fun z => p2 (p1 z)⟩
theorem Same.evo {H H' : Hp} (s : Same H H') : Evo H H' := fun a o h => .inl (s a o h)
theorem Evo.keep {H H' : Hp} (e : Evo H H') {a : Addr} {o : HO} (h : H a = some o) (no : ∀ l i, o ≠ .lst [.ref l, .int i]) : H' a = some o := by
  rcases e a o h with h1 | ⟨l, i, j, q, _⟩
  · exact h1
  · exact absurd q (no l i)
theorem Evo.free {H H' : Hp} (e : Evo H H') {a : Addr} (h : H' a = none) : H a = none := by
  cases q : H a with
  | none => rfl
  | some o =>
    rcases e a o q with h1 | ⟨_, _, _, _, h1, _⟩
    · rw [h] at h1; cases h1
    · rw [h] at h1; cases h1
section
variable {K : PySem.W.Frag} {H H' : Hp} {a : Addr}
theorem Evo.sqt (e : Evo H H') {xs : List V} (h : SqT K H a xs) : SqT K H' a xs := by
  rcases h with (h | ⟨o, h⟩) | h
  · exact .inl (.inl (e.keep h fun _ _ z => by cases z))
  · exact .inl (.inr ⟨o, e.keep h fun _ _ z => by cases z⟩)
  · exact .inr h
theorem Evo.sql (e : Evo H H') {xs : List V} (h : SqL K H a xs) (no : ∀ l i, xs ≠ [.ref l, .int i]) : SqL K H' a xs := by
  rcases h with (h | ⟨o, h⟩) | h
  · exact .inl (.inl (e.keep h fun l i z => no l i (HO.lst.inj z)))
  · exact .inl (.inr ⟨o, e.keep h fun _ _ z => by cases z⟩)
  · exact .inr h
theorem ints_no {ns : List Int} (l : Addr) (i : Int) : ns.map V.int ≠ [.ref l, .int i] := fun z => by
  cases ns with
  | nil => cases z
  | cons _ _ => cases z
theorem refs_no {ps : List Addr} (l : Addr) (i : Int) : ps.map V.ref ≠ [.ref l, .int i] := fun z => by
  cases ps with
  | nil => cases z
  | cons _ r =>
    cases r with
    | nil => cases z
    | cons _ _ => cases z
theorem Evo.ints (e : Evo H H') {ns : List Int} (h : SqL K H a (ns.map V.int)) : SqL K H' a (ns.map V.int) := e.sql h ints_no
theorem Evo.intsH (e : Evo H H') {ns : List Int} (h : H a = some (.lst (ns.map V.int))) : H' a = some (.lst (ns.map V.int)) := e.keep h fun l i z => ints_no l i (HO.lst.inj z)
theorem Evo.refsH (e : Evo H H') {ps : List Addr} (h : H a = some (.lst (ps.map V.ref))) : H' a = some (.lst (ps.map V.ref)) := e.keep h fun l i z => refs_no l i (HO.lst.inj z)
theorem Evo.tupH (e : Evo H H') {xs : List V} (h : H a = some (.tup xs)) : H' a = some (.tup xs) := e.keep h fun l i z => by cases z
/-- data without lists -/
inductive NoL : PyData → Prop
  | non : NoL .none
  | bl (b : Bool) : NoL (.bool b)
  | int (i : Int) : NoL (.int i)
  | str (x : Str) : NoL (.str x)
  | tup {ds : List PyData} (h : ∀ d ∈ ds, NoL d) : NoL (.tuple ds)
theorem dp_evo (e : Evo H H') {v : V} {d : PyData} (n : NoL d) (h : Dp K H v d) : Dp K H' v d := by
  have key : ∀ (n : Nat), (∀ (d : PyData) (v : V), sizeOf d < n → NoL d → Dp K H v d → Dp K H' v d) ∧ ∀ (ds : List PyData) (vs : List V), sizeOf ds < n → (∀ d ∈ ds, NoL d) → DpAll K H vs ds → DpAll K H' vs ds := by
    intro n
    induction n with
    | zero => exact ⟨fun _ _ h => absurd h (Nat.not_lt_zero _), fun _ _ h => absurd h (Nat.not_lt_zero _)⟩
    | succ n ih =>
      refine ⟨fun d v hn hl h => ?_, fun ds vs hn hl h => ?_⟩
      · cases h with
        | non => exact .non
        | bl b => exact .bl b
        | int i => exact .int i
        | str x => exact .str x
        | lst hs ha => cases hl
        | tup hs ha =>
          cases hl with
          | tup hl => exact .tup (e.sqt hs) (ih.2 _ _ (by simp only [PyData.tuple.sizeOf_spec] at hn; omega) hl ha)
      · cases h with
        | nil => exact .nil
        | cons h1 h2 =>
          simp only [List.cons.sizeOf_spec] at hn
          exact .cons (ih.1 _ _ (by omega) (hl _ List.mem_cons_self) h1) (ih.2 _ _ (by omega) (fun d hd => hl d (List.mem_cons_of_mem _ hd)) h2)
  exact (key (sizeOf d + 1)).1 d v (Nat.lt_succ_self _) n h
theorem tab_noL (t : List Guest) : NoL (tabD t) := .tup fun d hd => by
  obtain ⟨g, _, rfl⟩ := List.mem_map.mp hd
  obtain ⟨c, e⟩ := g
  refine .tup fun x hx => ?_
  rcases List.mem_cons.mp hx with h | hx
  · rw [h]; exact .int _
  · have : x = optD e := by simpa using hx
    rw [this]
    cases e with
    | none => exact .non
    | some m => exact .int m
theorem TableAt.evo {t : List Guest} (h : TableAt K H a t) (e : Evo H H') : TableAt K H' a t := dp_evo e (tab_noL t) h
/-- a bag of draws -/
def BagAt (K : PySem.W.Frag) (H : Hp) (b : Addr) : Prop := ∃ (l : Addr) (i : Int) (ns : List Int), H b = some (.lst [.ref l, .int i]) ∧ 0 ≤ i ∧ SqL K H l (ns.map V.int) ∧ ns.length = 400 ∧ ∀ n ∈ ns, 0 ≤ n ∧ n < 1000
theorem BagAt.evo {b : Addr} (h : BagAt K H b) (e : Evo H H') : BagAt K H' b := by
  obtain ⟨l, i, ns, h1, h2, h3, h4, h5⟩ := h
  rcases e b _ h1 with q | ⟨l', i', j, q, h6, h7⟩
  · exact ⟨l, i, ns, q, h2, e.ints h3, h4, h5⟩
  · cases q
    exact ⟨l, j, ns, h6, h7 h2, e.ints h3, h4, h5⟩
end
end Lp
namespace Lp
open PySem PySem.Spec PyProof.Rows L2
section
variable {P : Program} {w : World} {K : PySem.W.Frag} {mg : Str → Option Value} {base : Heap}
/-! ### the law's draws -/
def spCell (K : PySem.W.Frag) : Sp := fun vs H Q _ => ∃ (a : Addr) (ns : List Int) (k : Int), vs = [.ref a, .int k] ∧ SqL K H a (ns.map V.int) ∧ 0 ≤ k ∧ ∀ z : Int, Q (.int z) H
theorem sc_law_cell_at : FnScope ["script", "k"] ["script", "k"] (defScope s_law_cell_at) := ⟨rfl, rfl, rfl, by decide +kernel, rfl, by decide +kernel, by decide +kernel⟩
theorem ok_cell {f : Addr} {fd : FuncData} (F : L2.Fun K "_law_cell_at" "_law_cell_at" s_law_cell_at f fd) (B : Bls mg) : FnOk P w K mg base L2.CX0 1 f fd ["script", "k"] (spCell K) := by
  refine F.ok sc_law_cell_at (fun vs H Q E h => ?_) (fun cdv A outer s H vs Q E hr h => ?_)
  · obtain ⟨a, ns, k, rfl, _⟩ := h
    rfl
  · obtain ⟨a, ns, k, rfl, hs, h0, q⟩ := h
    refine ⟨_, (pss_cons (ps_if (pt_cmpR op_lt (pv 1) (pe_len B (pv 0)) (nomark _))
      (pss_one (ps_ret (pe_ix ix_list (pv 0) (pv 1) (fun _ _ => rfl))))
      pss_nil)
      (pss_one (ps_ret pe_int))), ?_⟩
    refine ⟨_, rfl, _, rfl, a, _, rfl, .inl hs, _, _, rfl, rfl, _, rfl, ?_⟩
    refine ite2 (fun c => ?_) (fun c => ?_)
    · have lt := of_decide_eq_true c
      rw [List.length_map] at lt
      have hk : k.toNat < ns.length := by omega
      refine ⟨_, rfl, _, rfl, a, _, _, _, rfl, rfl, hs, at_of (j := k.toNat) (by omega) (map_at (List.getElem?_eq_getElem hk)), q _⟩
    · exact q 0
def spDraws : Sp := fun vs H Q _ => ∃ (cell : Int), vs = [.int cell, .int 400, .int 1000] ∧ ∀ (l : Addr) (ns : List Int) (H' : Hp), Same H H' → H l = none → H' l = some (.lst (ns.map V.int)) → ns.length = 400 → (∀ n ∈ ns, 0 ≤ n ∧ n < 1000) → Q (.ref l) H'
theorem sc_law_draws : FnScope ["cell", "many", "size", "found", "rest", "stirred", "k"] ["cell", "many", "size"] (defScope s_law_draws) := ⟨rfl, rfl, rfl, by decide +kernel, rfl, by decide +kernel, by decide +kernel⟩
theorem ok_draws {f : Addr} {fd : FuncData} (F : L2.Fun K "_law_draws" "_law_draws" s_law_draws f fd) (B : Bls mg) : FnOk P w K mg base L2.CX0 1 f fd ["cell", "many", "size"] spDraws := by
  refine F.ok sc_law_draws (fun vs H Q E h => ?_) (fun cdv A outer s H vs Q E hr h => ?_)
  · obtain ⟨cell, rfl, _⟩ := h
    rfl
  · obtain ⟨cell, rfl, q⟩ := h
    refine ⟨_, (pss_cons (ps_set (i := 3) sc_law_draws.nd rfl (Or.inl rfl) (pe_lst pa_nil))
      (pss_cons (ps_set (i := 4) sc_law_draws.nd rfl (Or.inl rfl) (pe_op op_mul (pv 0) (pe_callTy call_int1 (by rfl) B.int (by decide +kernel) (pa_cons (pe_cmpR op_ge (pv 0) (pe_op op_pow pe_int pe_int) (nomark _)) pa_nil))))
      (pss_cons (ps_set (i := 5) sc_law_draws.nd rfl (Or.inl rfl) (pe_op op_mod (pv 0) pe_int))
      (pss_cons (ps_for PassesOwn.never rfl (pi_range1 (by rfl) B.range (pa_cons (pe_op op_add (pv 1) pe_int) pa_nil)) (pg_name (i := 6) sc_law_draws.nd rfl (Or.inl rfl))
      (pss_cons (ps_set (i := 5) sc_law_draws.nd rfl (Or.inl rfl) (pe_op op_mod (pe_op op_add (pe_op op_add (pe_op op_add (pe_op op_mul (pv 5) (pv 5)) (pe_op op_mul pe_int (pv 5))) (pv 6)) pe_int) pe_int))
      (pss_one (ps_if (PW.pt (pw_and (pt_cmpR op_gt (pv 6) pe_int (nomark _)) (pw_and1 (pt_cmpR op_gt (pv 4) pe_int (nomark _)))))
      (pss_cons (ps_expr (pe_bm PySem.F.plainAttrs_list PySem.F.slot_list_append PySem.F.type_list_append mt_append (pv 3) (pa_cons (pe_op op_mod (pv 4) (pv 2)) pa_nil)))
      (pss_one (ps_set (i := 4) sc_law_draws.nd rfl (Or.inl rfl) (pe_op op_fdiv (pv 4) (pv 2)))))
      (pss_one (ps_if (pt_cmpR op_gt (pv 6) pe_int (nomark _))
      (pss_one (ps_expr (pe_bm PySem.F.plainAttrs_list PySem.F.slot_list_append PySem.F.type_list_append mt_append (pv 3) (pa_cons (pe_op op_mod (pe_op op_fdiv (pv 5) pe_int) (pv 2)) pa_nil))))
      pss_nil))))))
      (pss_one (ps_ret (pv 3))))))), ?_⟩
    refine ⟨Nat.zero_le _, fun l hl => ?_⟩
    refine ⟨_, rfl, _, rfl, _, _, rfl, rfl, ⟨by decide, by decide, by decide⟩, _, _, rfl, rfl, .inr ⟨_, rfl, _, _, rfl, rfl, .inr ?_, ?_⟩⟩
    · split <;> exact ⟨by decide, by decide⟩
    refine ⟨_, rfl, _, _, rfl, rfl, by show (0 : Int) < 2305843009213693951; decide, ?_⟩
    have e0 := Int.emod_nonneg cell (show (2305843009213693951 : Int) ≠ 0 by decide)
    have e1 := Int.emod_lt_of_pos cell (show (0 : Int) < 2305843009213693951 by decide)
    refine ⟨_, rfl, _, _, rfl, rfl, _, rfl, by decide, by decide, for_range (lo := 0) (n := (403 : Int).toNat) (fun i σ H' => ∃ (rest stirred : Int) (v : Option V) (ns : List Int), σ = [some (.int cell), some (.int 400), some (.int 1000), some (.ref l), some (.int rest), some (.int stirred), v] ∧
      (∀ b o, H b = some o → H' b = some o) ∧ H' l = some (.lst (ns.map V.int)) ∧ ns.length = i - 3 ∧ (∀ n ∈ ns, 0 ≤ n ∧ n < 1000) ∧ 0 ≤ stirred ∧ stirred < 2305843009213693951)
      ⟨_, _, none, [], rfl, same_upd hl, upd_same, rfl, (fun n hn => by cases hn), e0, e1⟩ ?_ ?_⟩
    · rintro i σ H' hi ⟨rest, stirred, v, ns, rfl, sm, hq, hlen, hns, s0, s1⟩
      have hi' : i < 403 := hi
      refine ⟨_, rfl, _, rfl, _, _, rfl, rfl, .inl ⟨by omega, by omega⟩, _, rfl, _, _, rfl, rfl, .inl ⟨by decide, by decide⟩, _, _, rfl, rfl, _, rfl, _, _, rfl, rfl, _, _, rfl, rfl, _, _, rfl, rfl, by show (0 : Int) < 2305843009213693951; decide, ?_⟩
      have t0 := Int.emod_nonneg (stirred * stirred + 48271 * stirred + (0 + (i : Int)) + 1) (show (2305843009213693951 : Int) ≠ 0 by decide)
      have t1 := Int.emod_lt_of_pos (stirred * stirred + 48271 * stirred + (0 + (i : Int)) + 1) (show (0 : Int) < 2305843009213693951 by decide)
      -- one more is put down
      have more : ∀ (z : Int), 0 ≤ z → z < 1000 → 3 ≤ i → (∀ b o, H b = some o → (upd H' l (.lst (ns.map V.int ++ [V.int z]))) b = some o) ∧ (upd H' l (.lst (ns.map V.int ++ [V.int z]))) l = some (.lst ((ns ++ [z]).map V.int)) ∧ (ns ++ [z]).length = i + 1 - 3 ∧ ∀ n ∈ ns ++ [z], 0 ≤ n ∧ n < 1000 := fun z z0 z1 h3 => by
        refine ⟨fun b o e => ?_, ?_, ?_, fun n hn => ?_⟩
        · rw [upd_ne (ne_of_none e hl)]
          exact sm b o e
        · rw [upd_same, List.map_append]
          rfl
        · rw [List.length_append, List.length_singleton]
          omega
        · rcases List.mem_append.mp hn with hn | hn
          · exact hns n hn
          · have : n = z := by simpa using hn
            rw [this]; exact ⟨z0, z1⟩
      have hz : (ns.map V.int).length < sizeLine := by rw [List.length_map]; exact small1000 (by omega)
      have m0 : ∀ z : Int, 0 ≤ z % 1000 ∧ z % 1000 < 1000 := fun z => ⟨Int.emod_nonneg _ (by decide), Int.emod_lt_of_pos _ (by decide)⟩
      refine ⟨_, rfl, _, _, rfl, rfl, _, rfl, ?_⟩
      refine ite2 (fun c1 => ?_) (fun c1 => ?_)
      · have i3 : 3 ≤ i := by have := of_decide_eq_true c1; omega
        refine ⟨_, rfl, _, _, rfl, rfl, _, rfl, ?_⟩
        refine ite2 (fun c2 => ?_) (fun c2 => ?_)
        · refine ⟨_, rfl, .inl ⟨rfl, _, SqL.of hq⟩, _, rfl, _, rfl, _, _, rfl, rfl, by show (0 : Int) < 1000; decide, l, _, _, rfl, rfl, hq, hz, ?_⟩
          refine ⟨_, rfl, _, rfl, _, _, rfl, rfl, ⟨by decide, by decide⟩, ?_⟩
          obtain ⟨m1, m2, m3, m4⟩ := more _ (m0 rest).1 (m0 rest).2 i3
          exact ⟨_, _, _, _, rfl, m1, m2, m3, m4, t0, t1⟩
        · refine ⟨_, rfl, _, _, rfl, rfl, _, rfl, ?_⟩
          rw [c1]
          refine iteT ⟨_, rfl, .inl ⟨rfl, _, SqL.of hq⟩, _, rfl, _, _, rfl, rfl, ⟨by decide, by decide⟩, _, rfl, _, _, rfl, rfl, by show (0 : Int) < 1000; decide, l, _, _, rfl, rfl, hq, hz, ?_⟩
          obtain ⟨m1, m2, m3, m4⟩ := more _ (m0 ((stirred * stirred + 48271 * stirred + (0 + (i : Int)) + 1) % 2305843009213693951 / 4096)).1 (m0 ((stirred * stirred + 48271 * stirred + (0 + (i : Int)) + 1) % 2305843009213693951 / 4096)).2 i3
          exact ⟨_, _, _, _, rfl, m1, m2, m3, m4, t0, t1⟩
      · have i3 : i < 3 := by
          have : ¬ ((2 : Int) < 0 + (i : Int)) := fun z => c1 (decide_eq_true z)
          omega
        refine ⟨_, rfl, _, _, rfl, rfl, _, rfl, ?_⟩
        rw [Bool.eq_false_iff.mpr c1]
        exact iteF ⟨_, _, _, ns, rfl, sm, hq, by omega, hns, t0, t1⟩
    · rintro σ H' ⟨rest, stirred, v, ns, rfl, sm, hq, hlen, hns, _⟩
      exact ⟨_, rfl, q l ns H' sm hl hq hlen hns⟩
def spBag (K : PySem.W.Frag) : Sp := fun vs H Q _ => ∃ (a : Addr) (ns : List Int) (k : Int), vs = [.ref a, .int k] ∧ SqL K H a (ns.map V.int) ∧ 0 ≤ k ∧ ∀ (b : Addr) (H' : Hp), Same H H' → H b = none → BagAt K H' b → Q (.ref b) H'
theorem sc_law_bag : FnScope ["script", "k"] ["script", "k"] (defScope s_law_bag) := ⟨rfl, rfl, rfl, by decide +kernel, rfl, by decide +kernel, by decide +kernel⟩
theorem ok_bag {f : Addr} {fd : FuncData} (F : L2.Fun K "_law_bag" "_law_bag" s_law_bag f fd) (c_law_cell_at : Cal P w K mg base 1 "_law_cell_at" (spCell K)) (c_law_draws : Cal P w K mg base 1 "_law_draws" spDraws) : FnOk P w K mg base L2.CX0 2 f fd ["script", "k"] (spBag K) := by
  refine F.ok sc_law_bag (fun vs H Q E h => ?_) (fun cdv A outer s H vs Q E hr h => ?_)
  · obtain ⟨a, ns, k, rfl, _⟩ := h
    rfl
  · obtain ⟨a, ns, k, rfl, hs, h0, q⟩ := h
    refine ⟨_, (pss_one (ps_ret (pe_lst (pa_cons (pe_g c_law_draws hr (pa_cons (pe_g c_law_cell_at hr (pa_cons (pv 0) (pa_cons (pv 1) pa_nil))) (pa_cons pe_int (pa_cons pe_int pa_nil)))) (pa_cons pe_int pa_nil))))), ?_⟩
    refine ⟨_, rfl, _, rfl, a, ns, k, rfl, hs, h0, fun z => ⟨z, rfl, fun l ms H1 s1 nl hl hm hms => ?_⟩⟩
    refine ⟨by show 2 ≤ sizeLine; decide, fun b hb => ?_⟩
    exact q b _ (s1.trans (same_upd hb)) (s1.free hb) ⟨l, 0, ms, upd_same, by decide, SqL.of (same_upd hb _ _ hl), hm, hms⟩
def spBags (K : PySem.W.Frag) : Sp := fun vs H Q _ => ∃ (a : Addr) (ns : List Int) (n : Int), vs = [.ref a, .int n] ∧ SqL K H a (ns.map V.int) ∧ 1 ≤ n ∧ n ≤ 100 ∧
  ∀ (l : Addr) (bs : List Addr) (H' : Hp), Same H H' → H l = none → H' l = some (.lst (bs.map V.ref)) → (∀ b ∈ bs, BagAt K H' b) → Q (.ref l) H'
theorem sc_law_bags : FnScope ["script", "limit", "k"] ["script", "limit"] (defScope s_law_bags) := ⟨rfl, rfl, rfl, by decide +kernel, rfl, by decide +kernel, by decide +kernel⟩
theorem ok_bags {f : Addr} {fd : FuncData} (F : L2.Fun K "_law_bags" "_law_bags" s_law_bags f fd) (B : Bls mg) (c_law_bag : Cal P w K mg base 2 "_law_bag" (spBag K)) : FnOk P w K mg base L2.CX0 3 f fd ["script", "limit"] (spBags K) := by
  refine F.ok sc_law_bags (fun vs H Q E h => ?_) (fun cdv A outer s H vs Q E hr h => ?_)
  · obtain ⟨a, ns, n, rfl, _⟩ := h
    rfl
  · obtain ⟨a, ns, n, rfl, hs, h1, h2, q⟩ := h
    refine ⟨_, (pss_one (ps_ret (pe_lc (own := [("k", 2)]) (g := gName 2)  (tt := tYes) (by rfl) sc_law_bags.nd (pi_range1 (by rfl) B.range (pa_cons (pe_callB (call_max2 rfl) (by rfl) B.max (by decide +kernel) (pa_cons pe_int (pa_cons (pe_callB (call_min2 rfl) (by rfl) B.min (by decide +kernel) (pa_cons (pv 1) (pa_cons (pe_len B (pv 0)) pa_nil))) pa_nil))) pa_nil)) (blkOk_by (own := [("k", 2)]) (N := ["script", "limit", "k"]) (sc := defScope s_law_bags) (by decide +kernel)) (fun _ _ _ _ _ => by exact (pg_name (i := 2) sc_law_bags.nd rfl (Or.inl rfl))) (fun _ _ _ _ _ => by exact pts_nil) (fun _ _ _ _ _ => by exact (pe_g c_law_bag hr (pa_cons (pv 0) (pa_cons (pv 2) pa_nil))))))), ?_⟩
    refine ⟨_, rfl, _, rfl, a, _, rfl, .inl hs, _, _, rfl, _, _, rfl, _, rfl, ?_, ?_, fun D hD => ?_⟩
    · split <;> split <;> omega
    · split <;> split <;> omega
    refine lc_range (lo := 0) (n := Int.toNat _) (fun i H' => Same H H' ∧ ∃ bs : List Addr, H' D = some (.lst (bs.map V.ref)) ∧ bs.length = i ∧ ∀ b ∈ bs, BagAt K H' b) ⟨same_upd hD, [], upd_same, rfl, (fun b hb => by cases hb)⟩ ?_ ?_
    · rintro i H' hi ⟨sm, bs, hb, hl, hba⟩
      have i100 : i < 100 := by
        have e : ∀ m : Int, i < m.toNat → m ≤ 100 → i < 100 := fun m q1 q2 => by omega
        refine e _ hi ?_
        split <;> split <;> omega
      refine ⟨rfl, ?_⟩
      refine ⟨_, rfl, _, rfl, a, ns, _, rfl, sm.seq hs, by omega, fun b H1 s1 nb Ba => ⟨_, s1 _ _ hb, by rw [List.length_map]; exact small1000 (by omega), fun c o e => ?_, bs ++ [b], ?_, by rw [List.length_append, hl]; rfl, fun c hc => ?_⟩⟩
      · rw [upd_ne (ne_of_none e hD)]
        exact s1 _ _ (sm c o e)
      · rw [upd_same, List.map_append]
        rfl
      · have ev : Evo H1 (upd H1 D (.lst (bs.map V.ref ++ [V.ref b]))) → BagAt K (upd H1 D (.lst (bs.map V.ref ++ [V.ref b]))) c := fun ev => by
          rcases List.mem_append.mp hc with hc | hc
          · exact ((hba c hc).evo (Same.evo s1)).evo ev
          · have : c = b := by simpa using hc
            rw [this]; exact Ba.evo ev
        -- the new list is none that a bag stands on
        obtain ⟨l, i0, ms, g1, g2, g3, g4, g5⟩ : BagAt K H1 c := by
          rcases List.mem_append.mp hc with hc | hc
          · exact (hba c hc).evo (Same.evo s1)
          · have : c = b := by simpa using hc
            rw [this]; exact Ba
        have hb1 := s1 _ _ hb
        have ncD : c ≠ D := ne_of g1 hb1 (fun z => by
          have z' : [V.ref l, V.int i0] = bs.map V.ref := HO.lst.inj z
          exact refs_no l i0 z'.symm)
        refine ⟨l, i0, ms, by rw [upd_ne ncD]; exact g1, g2, ?_, g4, g5⟩
        rcases g3 with (g3 | ⟨o, g3⟩) | g3
        · have nlD : l ≠ D := fun z => by
            rw [z, hb1] at g3
            have z' : bs.map V.ref = ms.map V.int := HO.lst.inj (Option.some.inj g3)
            cases ms with
            | nil => simp at g4
            | cons _ _ =>
              cases bs with
              | nil => cases z'
              | cons _ _ => cases z'
          exact .inl (.inl (by rw [upd_ne nlD]; exact g3))
        · have nlD : l ≠ D := ne_of g3 hb1 (by intro z; cases z)
          exact .inl (.inr ⟨o, by rw [upd_ne nlD]; exact g3⟩)
        · exact .inr g3
    · rintro H' ⟨sm, bs, hb, hl, hba⟩
      exact q D bs H' sm hD hb hba
end
end Lp
namespace Lp
open PySem PySem.Spec PyProof.Rows L2
theorem evo_bag {H : Hp} {b l : Addr} {i j : Int} (h : H b = some (.lst [.ref l, .int i])) (hj : 0 ≤ j) : Evo H (upd H b (.lst [.ref l, .int j])) := fun a o e => by
  by_cases q : a = b
  · rw [q, h] at e
    cases e
    rw [q]
    exact .inr ⟨l, i, j, rfl, upd_same, fun _ => hj⟩
  · exact .inl (by rw [upd_ne q]; exact e)
section
variable {P : Program} {w : World} {K : PySem.W.Frag} {mg : Str → Option Value} {base : Heap}
def spTake (K : PySem.W.Frag) : Sp := fun vs H Q _ => ∃ (b : Addr) (m : Int), vs = [.ref b, .int m] ∧ BagAt K H b ∧ 0 < m ∧ ∀ (z : Int) (H' : Hp), Evo H H' → 0 ≤ z → z < m → Q (.int z) H'
theorem sc_law_take : FnScope ["bag", "many"] ["bag", "many"] (defScope s_law_take) := ⟨rfl, rfl, rfl, by decide +kernel, rfl, by decide +kernel, by decide +kernel⟩
theorem ok_take {f : Addr} {fd : FuncData} (F : L2.Fun K "_law_take" "_law_take" s_law_take f fd) (B : Bls mg) : FnOk P w K mg base L2.CX0 1 f fd ["bag", "many"] (spTake K) := by
  refine F.ok sc_law_take (fun vs H Q E h => ?_) (fun cdv A outer s H vs Q E hr h => ?_)
  · obtain ⟨b, m, rfl, _⟩ := h
    rfl
  · obtain ⟨b, m, rfl, ⟨l, i, ns, hb, i0, hs, hl, hns⟩, m0, q⟩ := h
    refine ⟨_, (pss_cons (ps_asg (pe_op op_add (pe_ix ix_list (pv 0) pe_int (fun _ _ => rfl)) pe_int) (pg_sub (pv 0) pe_int set_list))
      (pss_one (ps_ret (pe_op op_mod (pe_ix ix_list (pe_ix ix_list (pv 0) pe_int (fun _ _ => rfl)) (pe_op op_mod (pe_ix ix_list (pv 0) pe_int (fun _ _ => rfl)) (pe_len B (pe_ix ix_list (pv 0) pe_int (fun _ _ => rfl)))) (fun _ _ => rfl)) (pv 1))))), ?_⟩
    refine ⟨_, rfl, b, _, _, _, rfl, rfl, SqL.of hb, rfl, _, _, rfl, rfl, _, rfl, b, _, _, _, rfl, rfl, hb, rfl, ?_⟩
    have ev : Evo H (upd H b (.lst [.ref l, .int (i + 1)])) := evo_bag hb (by omega)
    have hb' : SqL K (upd H b (.lst [.ref l, .int (i + 1)])) b [.ref l, .int (i + 1)] := SqL.of upd_same
    have hs' := ev.ints hs
    have n0 := Int.emod_nonneg (i + 1) (show ((ns.map V.int).length : Int) ≠ 0 by rw [List.length_map]; omega)
    have n1 := Int.emod_lt_of_pos (i + 1) (show (0 : Int) < ((ns.map V.int).length : Int) by rw [List.length_map]; omega)
    have nk : ((i + 1) % ((ns.map V.int).length : Int)).toNat < ns.length := by rw [List.length_map] at n1 n0 ⊢; omega
    refine ⟨_, rfl, b, _, _, _, rfl, rfl, hb', rfl, _, rfl, b, _, _, _, rfl, rfl, hb', rfl, _, rfl, b, _, _, _, rfl, rfl, hb', rfl, l, _, rfl, .inl hs', _, _, rfl, rfl, by rw [List.length_map]; omega, ?_⟩
    refine ⟨l, _, _, _, rfl, rfl, hs', at_of (j := ((i + 1) % ((ns.map V.int).length : Int)).toNat) (by omega) (map_at (List.getElem?_eq_getElem nk)), _, rfl, _, _, rfl, rfl, m0, ?_⟩
    exact q _ _ ev (Int.emod_nonneg _ (by omega)) (Int.emod_lt_of_pos _ m0)
def spFar (K : PySem.W.Frag) : Sp := fun vs H Q _ => ∃ (b : Addr) (m : Int), vs = [.ref b, .int m] ∧ BagAt K H b ∧ 0 < m ∧ ∀ (z : Int) (H' : Hp), Evo H H' → 0 ≤ z → z < m → Q (.int z) H'
theorem sc_law_far_draw : FnScope ["bag", "many", "found", "much"] ["bag", "many"] (defScope s_law_far_draw) := ⟨rfl, rfl, rfl, by decide +kernel, rfl, by decide +kernel, by decide +kernel⟩
theorem ok_far {f : Addr} {fd : FuncData} (F : L2.Fun K "_law_far_draw" "_law_far_draw" s_law_far_draw f fd) (B : Bls mg) (c_law_take : Cal P w K mg base 1 "_law_take" (spTake K)) : FnOk P w K mg base L2.CX0 2 f fd ["bag", "many"] (spFar K) := by
  refine F.ok sc_law_far_draw (fun vs H Q E h => ?_) (fun cdv A outer s H vs Q E hr h => ?_)
  · obtain ⟨b, m, rfl, _⟩ := h
    rfl
  · obtain ⟨b, m, rfl, ba, m0, q⟩ := h
    refine ⟨_, (pss_cons (ps_par (i := 2) (j := 3) (by rfl) sc_law_far_draw.nd rfl rfl (by decide) rfl rfl (pa_cons pe_int (pa_cons (pv 1) pa_nil)) (by rfl))
      (pss_cons (ps_while PassesOwn.never (pt_cmpR op_gt (pv 3) pe_int (nomark _))
      (pss_one (ps_par (i := 2) (j := 3) (by rfl) sc_law_far_draw.nd rfl rfl (by decide) rfl rfl (pa_cons (pe_op op_add (pe_op op_mul pe_int (pv 2)) (pe_g c_law_take hr (pa_cons (pv 0) (pa_cons pe_int pa_nil)))) (pa_cons (pe_op op_fdiv (pv 3) pe_int) pa_nil)) (by rfl))))
      (pss_one (ps_ret (pe_ix ix_list (pe_lst (pa_cons (pe_op op_mod (pv 2) (pv 1)) (pa_cons pe_int (pa_cons (pe_op op_sub (pv 1) pe_int) (pa_cons (pe_op op_mod (pv 2) (pv 1)) pa_nil))))) (pe_g c_law_take hr (pa_cons (pv 0) (pa_cons pe_int pa_nil))) (fun _ _ => rfl)))))), ?_⟩
    refine ⟨_, rfl, _, _, rfl, ?_⟩
    refine ⟨fun k σ H' => ∃ found much : Int, σ = [some (.ref b), some (.int m), some (.int found), some (.int much)] ∧ Evo H H' ∧ k = much.toNat, ⟨_, 0, m, rfl, Evo.refl H, rfl⟩, ?_⟩
    rintro k σ H' ⟨found, much, rfl, ev, rfl⟩
    refine ⟨_, rfl, _, _, rfl, rfl, _, rfl, ?_⟩
    refine ite2 (fun c => ?_) (fun c => ?_)
    · have pos := of_decide_eq_true c
      refine ⟨fun σ' H'' => ∃ m', m' < much.toNat ∧ ∃ found much : Int, σ' = [some (.ref b), some (.int m), some (.int found), some (.int much)] ∧ Evo H H'' ∧ m' = much.toNat, fun _ _ h => h, ?_⟩
      refine ⟨_, rfl, _, _, rfl, rfl, .inl ⟨by decide, by decide⟩, _, rfl, b, _, rfl, ba.evo ev, by decide, fun z H2 e2 z0 z1 => ⟨_, _, rfl, rfl, _, rfl, _, _, rfl, rfl, ⟨by decide, by decide⟩, _, _, rfl, ?_⟩⟩
      refine ⟨(much / 1000).toNat, ?_, _, _, rfl, ev.trans e2, rfl⟩
      have : much / 1000 < much := by omega
      omega
    · have md : ∀ z : Int, 0 ≤ z % m ∧ z % m < m := fun z => ⟨Int.emod_nonneg _ (by omega), Int.emod_lt_of_pos _ m0⟩
      refine ⟨_, rfl, _, rfl, _, _, rfl, rfl, m0, _, rfl, _, _, rfl, rfl, _, rfl, _, rfl, _, _, rfl, rfl, m0, by show 4 ≤ sizeLine; decide, fun p hp => ?_⟩
      have s1 : Same H' (upd H' p (.lst [.int (found % m), .int 0, .int (m - 1), .int (found % m)])) := same_upd hp
      refine ⟨_, rfl, b, _, rfl, (ba.evo ev).evo (Same.evo s1), by decide, fun z H2 e2 z0 z1 => ?_⟩
      have hl : H2 p = some (.lst ([found % m, 0, m - 1, found % m].map V.int)) := e2.intsH (ns := [found % m, 0, m - 1, found % m]) upd_same
      have e3 : Evo H H2 := (ev.trans (Same.evo s1)).trans e2
      have zk : z.toNat < [found % m, 0, m - 1, found % m].length := by show z.toNat < 4; omega
      refine ⟨p, _, _, _, rfl, rfl, SqL.of hl, at_of (j := z.toNat) (by omega) (map_at (List.getElem?_eq_getElem zk)), ?_⟩
      have bd : ∀ y ∈ [found % m, 0, m - 1, found % m], 0 ≤ y ∧ y < m := fun y hy => by
        have := md found
        simp only [List.mem_cons, List.not_mem_nil, or_false] at hy
        omega
      have := bd _ (List.getElem_mem zk)
      exact q _ _ e3 this.1 this.2
end
end Lp
namespace Lp
open PySem PySem.Spec PyProof.Rows L2
/-- what is drawn below a bound -/
def Lim (far : Int) (t : List Guest) : Prop := ∀ g ∈ t, 0 ≤ g.1 ∧ (g.1 < far ∨ g.1 < 4) ∧ ∀ m, g.2 = some m → 0 ≤ m ∧ (m < far ∨ m < 6)
theorem evo_kept {H H1 : Hp} {l : Addr} {o : HO} (e : Evo H H1) (hl : H l = none) : Evo H (upd H1 l o) := fun a u h => by
  have : a ≠ l := ne_of_none h hl
  rw [upd_ne this]
  exact e a u h
theorem Lim.ok {far : Int} {t : List Guest} (h : Lim far t) (hf : far ≤ 1000000000000000001) (h1 : 1 ≤ t.length) (h8 : t.length ≤ 8) : TabOk t := ⟨h1, h8, fun g hg => by
  obtain ⟨a, b, c⟩ := h g hg
  refine ⟨a, by omega, fun m hm => ?_⟩
  obtain ⟨d, e⟩ := c m hm
  exact ⟨d, by omega⟩⟩
section
variable {P : Program} {w : World} {K : PySem.W.Frag} {mg : Str → Option Value} {base : Heap}
def spLawTable (K : PySem.W.Frag) : Sp := fun vs H Q _ => ∃ (b : Addr) (seats far : Int), vs = [.ref b, .int seats, .int far] ∧ BagAt K H b ∧ 0 < seats ∧ seats ≤ 8 ∧ 0 < far ∧
  ∀ (a : Addr) (t : List Guest) (H' : Hp), Evo H H' → TableAt K H' a t → 1 ≤ t.length → (t.length : Int) ≤ seats → Lim far t → Q (.ref a) H'
theorem sc_law_table : FnScope ["bag", "seats", "far", "found", "same", "turn", "courtesy", "enough"] ["bag", "seats", "far"] (defScope s_law_table) := ⟨rfl, rfl, rfl, by decide +kernel, rfl, by decide +kernel, by decide +kernel⟩
theorem ok_ltable {f : Addr} {fd : FuncData} (F : L2.Fun K "_law_table" "_law_table" s_law_table f fd) (B : Bls mg) (c_law_take : Cal P w K mg base 1 "_law_take" (spTake K)) (c_law_far_draw : Cal P w K mg base 2 "_law_far_draw" (spFar K)) : FnOk P w K mg base L2.CX0 3 f fd ["bag", "seats", "far"] (spLawTable K) := by
  refine F.ok sc_law_table (fun vs H Q E h => ?_) (fun cdv A outer s H vs Q E hr h => ?_)
  · obtain ⟨b, seats, far, rfl, _⟩ := h
    rfl
  · obtain ⟨b, seats, far, rfl, ba, p0, p8, pf, q⟩ := h
    refine ⟨_, (pss_cons (ps_par (i := 3) (j := 4) (by rfl) sc_law_table.nd rfl rfl (by decide) rfl rfl (pa_cons (pe_lst pa_nil) (pa_cons (pe_g c_law_far_draw hr (pa_cons (pv 0) (pa_cons (pv 2) pa_nil))) pa_nil)) (by rfl))
      (pss_cons (ps_for PassesOwn.never rfl (pi_range1 (by rfl) B.range (pa_cons (pe_op op_add pe_int (pe_g c_law_take hr (pa_cons (pv 0) (pa_cons (pv 1) pa_nil)))) pa_nil)) (pg_name (i := 5) sc_law_table.nd rfl (Or.inl rfl))
      (pss_cons (ps_set (i := 6) sc_law_table.nd rfl (Or.inl rfl) (pe_ix ix_list (pe_lst (pa_cons pe_int (pa_cons (pe_g c_law_take hr (pa_cons (pv 0) (pa_cons pe_int pa_nil))) (pa_cons (pe_g c_law_far_draw hr (pa_cons (pv 0) (pa_cons (pv 2) pa_nil))) (pa_cons (pv 4) pa_nil))))) (pe_g c_law_take hr (pa_cons (pv 0) (pa_cons pe_int pa_nil))) (fun _ _ => rfl)))
      (pss_cons (ps_set (i := 7) sc_law_table.nd rfl (Or.inl rfl) (pe_ix ix_list (pe_lst (pa_cons pe_non (pa_cons pe_non (pa_cons (pe_g c_law_far_draw hr (pa_cons (pv 0) (pa_cons (pv 2) pa_nil))) (pa_cons (pe_g c_law_take hr (pa_cons (pv 0) (pa_cons pe_int pa_nil))) pa_nil))))) (pe_g c_law_take hr (pa_cons (pv 0) (pa_cons pe_int pa_nil))) (fun _ _ => rfl)))
      (pss_one (ps_expr (pe_bm PySem.F.plainAttrs_list PySem.F.slot_list_append PySem.F.type_list_append mt_append (pv 3) (pa_cons (pe_tup (pa_cons (pv 6) (pa_cons (pv 7) pa_nil))) pa_nil)))))))
      (pss_one (ps_ret (pe_callTy call_tuple_of (by rfl) B.tuple (by decide +kernel) (pa_cons (pv 3) pa_nil)))))), ?_⟩
    -- found, same
    refine ⟨Nat.zero_le _, fun l hl => ?_⟩
    have e0 : Evo H (upd H l (.lst [])) := evo_kept (Evo.refl H) hl
    refine ⟨_, rfl, _, rfl, b, far, rfl, ba.evo e0, pf, fun same H1 e1 s0 s1 => ⟨_, _, rfl, ?_⟩⟩
    have hl1 : H1 l = some (.lst (([] : List Addr).map V.ref)) := e1.refsH (ps := []) upd_same
    -- for turn in range(1 + ..)
    refine ⟨_, rfl, _, rfl, b, seats, rfl, ba.evo (e0.trans e1), p0, fun n H2 e2 n0 n1 => ⟨_, _, rfl, rfl, _, rfl, by omega, by omega, ?_⟩⟩
    refine for_range (lo := 0) (n := (1 + n).toNat) (fun i σ H' => ∃ (ps : List Addr) (t : List Guest) (v5 v6 v7 : Option V), σ = [some (.ref b), some (.int seats), some (.int far), some (.ref l), some (.int same), v5, v6, v7] ∧ Evo H H' ∧
      H' l = some (.lst (ps.map V.ref)) ∧ ps.length = t.length ∧ (∀ (i : Nat) (g : Guest) (p : Addr), t[i]? = some g → ps[i]? = some p → H' p = some (.tup [.int g.1, optV g.2])) ∧ t.length = i ∧ Lim far t)
      ⟨[], [], none, none, none, rfl, (e0.trans e1).trans e2, e2.refsH hl1, rfl, (fun i g p h => by cases h), rfl, (fun g h => by cases h)⟩ ?_ ?_
    · rintro i σ H3 hi ⟨ps, t, v5, v6, v7, rfl, e3, hl3, hpt, hg, ht, lim⟩
      -- courtesy
      refine ⟨_, rfl, b, 4, rfl, ba.evo e3, by decide, fun c1 H4 e4 c10 c11 => ?_⟩
      have e34 := e3.trans e4
      refine ⟨_, rfl, _, rfl, b, far, rfl, ba.evo e34, pf, fun c2 H5 e5 c20 c21 => ?_⟩
      have e35 := e34.trans e5
      refine ⟨_, rfl, by show 4 ≤ sizeLine; decide, fun x hx => ?_⟩
      have sx : Same H5 (upd H5 x (.lst [.int 0, .int c1, .int c2, .int same])) := same_upd hx
      have e36 := e35.trans (Same.evo sx)
      refine ⟨_, rfl, b, 4, rfl, ba.evo e36, by decide, fun z H6 e6 z0 z1 => ?_⟩
      have hx6 : H6 x = some (.lst ([0, c1, c2, same].map V.int)) := e6.intsH (ns := [0, c1, c2, same]) upd_same
      have zk : z.toNat < [0, c1, c2, same].length := by show z.toNat < 4; omega
      refine ⟨x, _, _, _, rfl, rfl, SqL.of hx6, at_of (j := z.toNat) (by omega) (map_at (List.getElem?_eq_getElem zk)), ?_⟩
      have cb : ∀ y ∈ [0, c1, c2, same], 0 ≤ y ∧ (y < far ∨ y < 4) := fun y hy => by
        simp only [List.mem_cons, List.not_mem_nil, or_false] at hy
        omega
      have cy := cb _ (List.getElem_mem zk)
      generalize [0, c1, c2, same][z.toNat] = cc at cy
      have e37 := e36.trans e6
      have hl6 : H6 l = some (.lst (ps.map V.ref)) := e6.refsH ((Same.evo sx).refsH (e5.refsH (e4.refsH hl3)))
      have t6 : ∀ (p : Addr) (xs : List V), H3 p = some (.tup xs) → H6 p = some (.tup xs) := fun p xs h => e6.tupH ((Same.evo sx).tupH (e5.tupH (e4.tupH h)))
      -- enough
      refine ⟨_, rfl, _, rfl, b, far, rfl, ba.evo e37, pf, fun c3 H7 e7 c30 c31 => ?_⟩
      have e38 := e37.trans e7
      refine ⟨_, rfl, b, 6, rfl, ba.evo e38, by decide, fun c4 H8 e8 c40 c41 => ?_⟩
      have e39 := e38.trans e8
      refine ⟨by show 4 ≤ sizeLine; decide, fun y hy => ?_⟩
      have sy : Same H8 (upd H8 y (.lst [.non, .non, .int c3, .int c4])) := same_upd hy
      have e40 := e39.trans (Same.evo sy)
      refine ⟨_, rfl, b, 4, rfl, ba.evo e40, by decide, fun u H9 e9 u0 u1 => ?_⟩
      have hy9 : H9 y = some (.lst ([none, none, some c3, some c4].map optV)) := e9.keep upd_same fun _ _ z => by have := HO.lst.inj z; cases this
      have uk : u.toNat < [none, none, some c3, some c4].length := by show u.toNat < 4; omega
      refine ⟨y, _, _, _, rfl, rfl, SqL.of hy9, at_of (j := u.toNat) (by omega) (map_at (List.getElem?_eq_getElem uk)), ?_⟩
      have eb : ∀ o ∈ [none, none, some c3, some c4], ∀ m, o = some m → 0 ≤ m ∧ (m < far ∨ m < 6) := fun o ho m hm => by
        simp only [List.mem_cons, List.not_mem_nil, or_false] at ho
        rcases ho with h | h | h | h <;> rw [h] at hm <;> cases hm <;> omega
      have ey := eb _ (List.getElem_mem uk)
      generalize [none, none, some c3, some c4][u.toNat] = ee at ey
      have e41 := e40.trans e9
      have hl9 : H9 l = some (.lst (ps.map V.ref)) := e9.refsH ((Same.evo sy).refsH (e8.refsH (e7.refsH hl6)))
      have t9 : ∀ (p : Addr) (xs : List V), H3 p = some (.tup xs) → H9 p = some (.tup xs) := fun p xs h => e9.tupH ((Same.evo sy).tupH (e8.tupH (e7.tupH (t6 p xs h))))
      -- found.append((courtesy, enough))
      refine ⟨_, rfl, .inl ⟨rfl, _, SqL.of hl9⟩, _, rfl, _, rfl, by show 2 ≤ sizeLine; decide, fun r hrr => ?_⟩
      have sr : Same H9 (upd H9 r (.tup [.int cc, optV ee])) := same_upd hrr
      have hl10 := sr _ _ hl9
      refine ⟨l, _, _, rfl, rfl, hl10, by rw [List.length_map]; exact small1000 (by omega), ?_⟩
      refine ⟨ps ++ [r], t ++ [(cc, ee)], _, _, _, rfl, evo_kept (e41.trans (Same.evo sr)) hl, ?_, by rw [List.length_append, List.length_append, hpt]; rfl, fun j g p h1 h2 => ?_, by rw [List.length_append, ht]; rfl, fun g hgm => ?_⟩
      · rw [upd_same, List.map_append]
        rfl
      · have lt : ∀ p' : Addr, (upd H9 r (.tup [.int cc, optV ee])) p' = some (.tup [.int g.1, optV g.2]) → (upd (upd H9 r (.tup [.int cc, optV ee])) l (.lst (ps.map V.ref ++ [.ref r]))) p' = some (.tup [.int g.1, optV g.2]) := fun p' h => by
          rw [upd_ne (ne_of h hl10 (by intro z; cases z))]
          exact h
        refine lt p ?_
        by_cases hj : j < t.length
        · rw [List.getElem?_append_left hj] at h1
          rw [List.getElem?_append_left (by omega)] at h2
          exact sr _ _ (t9 _ _ (hg j g p h1 h2))
        · have ej : j = t.length := by
            have := (List.getElem?_eq_some_iff.mp h1).1
            rw [List.length_append, List.length_singleton] at this
            omega
          rw [List.getElem?_append_right (by omega), ej, Nat.sub_self] at h1
          rw [List.getElem?_append_right (by omega), ej, hpt, Nat.sub_self] at h2
          cases h1
          cases h2
          exact upd_same
      · rcases List.mem_append.mp hgm with h | h
        · exact lim g h
        · have : g = (cc, ee) := by simpa using h
          rw [this]
          exact ⟨cy.1, cy.2, ey⟩
    · rintro σ H3 ⟨ps, t, v5, v6, v7, rfl, e3, hl3, hpt, hg, ht, lim⟩
      refine ⟨_, rfl, l, _, rfl, .inl ⟨SqL.of hl3, fun r hrr => ?_⟩⟩
      have sr : Same H3 (upd H3 r (.tup (ps.map V.ref))) := same_upd hrr
      exact q r t _ (e3.trans (Same.evo sr)) (.mk (ps := ps) (SqT.of upd_same) hpt fun i g p h1 h2 => SqT.of (sr _ _ (hg i g p h1 h2))) (by omega) (by omega) lim
end
end Lp
namespace Lp
open PySem PySem.Spec PyProof.Rows L2
/-- what is told of the pieces: ps holds (seat, visit) of each, in order -/
def Takings (K : PySem.W.Frag) (H : Hp) (t : List Guest) (f : Nat) (d : Int) (k : Nat) (ps : List Addr) : Prop :=
  (ps.length : Int) = d - (St8 t f d k).left ∧ ∀ (j : Nat) (p : Addr), ps[j]? = some p → ∃ n, n < k ∧ H p = some (.tup [.int (((f + n) % t.length : Nat) : Int), .int ((n + 1 : Nat) : Int)]) ∧ d - (St8 t f d n).left = j ∧ d - (St8 t f d (n + 1)).left = j + 1
section
variable {P : Program} {w : World} {K : PySem.W.Frag} {mg : Str → Option Value} {base : Heap}
def spLawRest (K : PySem.W.Frag) : Sp := fun vs H Q _ => ∃ (a : Addr) (t : List Guest) (f : Nat) (d : Int), vs = [.ref a, .int d, .int (f : Int)] ∧ TableAt K H a t ∧ TabOk t ∧ f < t.length ∧ 0 ≤ d ∧ d ≤ 1000000 ∧
  ∀ (q lh lt : Addr) (ps : List Addr) (k : Nat) (H' : Hp), Same H H' → H lh = none → H lt = none → H' q = some (.tup [.ref lh, .int (Fin t f d).left, .ref lt]) → H' lh = some (.lst ((finL t f d).map V.int)) → H' lt = some (.lst (ps.map V.ref)) → Takings K H' t f d k ps → St8 t f d k = Fin t f d → Q (.ref q) H'
/-- none of the last visits took a piece -/
def Idle (t : List Guest) (f : Nat) (d : Int) (k m : Nat) : Prop := m ≤ k ∧ ∀ j, j < m → ¬ D.wants (D.gs t) (St8 t f d k) ((f + (k - 1 - j)) % t.length)
theorem idle_quiet {t : List Guest} {f : Nat} {d : Int} {k m : Nat} (ok : TabOk t) (h : Idle t f d k m) (hm : t.length ≤ m) : D.Quiet (D.gs t) t.length (St8 t f d k) := fun i hi => by
  obtain ⟨j, hj, e⟩ := D.met (f := f) (n := t.length) ok.1 (k - t.length) i hi
  have hk := h.1
  have := h.2 (t.length - 1 - j) (by omega)
  rw [show k - 1 - (t.length - 1 - j) = k - t.length + j by omega, e] at this
  exact this
def enoughB (o : Option Int) (x : Int) : Bool := match o with
  | none => true
  | some m => decide (x < m)
theorem enoughB_iff {o : Option Int} {x : Int} : enoughB o x = true ↔ ∀ m, o = some m → x < m := by
  cases o with
  | none => exact ⟨fun _ m e => (by cases e), fun _ => rfl⟩
  | some m => exact ⟨fun h m' e => (by cases e; exact of_decide_eq_true h), fun h => decide_eq_true (h m rfl)⟩
theorem or_enough {σ : L2.St} {H : Hp} {o : Option Int} {p : Addr} {xs : List V} {z x : Int} (h9 : σ[9]? = some (some (optV o))) (h3 : σ[3]? = some (some (.ref p))) (h7 : σ[7]? = some (some (.int z))) (hs : SqL K H p xs) (hx : atI xs z = some (.int x)) {Q : Bool → Hp → Prop}
    (h : Q (enoughB o x) H) : tOr (tTest (tOp (fun x y H Q => y = .non ∧ Q (.bl (decide (x = .non))) H) (tVar 9) (tC .non))) (tTest (tOp (rI0 fun i j => .bl (decide (i < j))) (tOp (rIxL K) (tVar 3) (tVar 7)) (tVar 9))) σ H Q := by
  refine ⟨_, h9, rfl, _, rfl, ?_⟩
  cases o with
  | none => exact iteT h
  | some m => exact iteF ⟨_, h3, _, h7, p, _, _, _, rfl, rfl, hs, hx, _, h9, _, _, rfl, rfl, _, rfl, h⟩
theorem sc_law_rest : FnScope ["table", "dish", "begin", "had", "takings", "visits", "idle", "seat", "courtesy", "enough"] ["table", "dish", "begin"] (defScope s_law_rest) := ⟨rfl, rfl, rfl, by decide +kernel, rfl, by decide +kernel, by decide +kernel⟩
theorem ok_lrest {f : Addr} {fd : FuncData} (F : L2.Fun K "_law_rest" "_law_rest" s_law_rest f fd) (B : Bls mg) : FnOk P w K mg base L2.CX0 1 f fd ["table", "dish", "begin"] (spLawRest K) := by
  refine F.ok sc_law_rest (fun vs H Q E h => ?_) (fun cdv A outer s H vs Q E hr h => ?_)
  · obtain ⟨a, t, f, d, rfl, _⟩ := h
    rfl
  · obtain ⟨a, t, fs, d, rfl, tb, ok, hf, hd, hd1, kq⟩ := h
    have hn : 0 < t.length := ok.1
    obtain ⟨xs, hx, hl, hg⟩ := tb.open
    have l8 : xs.length ≤ 8 := by rw [hl]; exact ok.2.1
    refine ⟨_, (pss_cons (ps_asg (pe_tup (pa_cons (pe_op op_rep (pe_lst (pa_cons pe_int pa_nil)) (pe_len B (pv 0))) (pa_cons (pe_lst pa_nil) (pa_cons pe_int (pa_cons pe_int pa_nil))))) (pg_tup (by rfl) (pgs_cons (pg_name (i := 3) sc_law_rest.nd rfl (Or.inl rfl)) (pgs_cons (pg_name (i := 4) sc_law_rest.nd rfl (Or.inl rfl)) (pgs_cons (pg_name (i := 5) sc_law_rest.nd rfl (Or.inl rfl)) (pgs_cons (pg_name (i := 6) sc_law_rest.nd rfl (Or.inl rfl)) pgs_nil))))))
      (pss_cons (ps_while PassesOwn.never (pt_cmpR op_lt (pv 6) (pe_len B (pv 0)) (nomark _))
      (pss_cons (ps_set (i := 7) sc_law_rest.nd rfl (Or.inl rfl) (pe_op op_mod (pe_op op_add (pv 2) (pv 5)) (pe_len B (pv 0))))
      (pss_cons (ps_asg (pe_ix ix_tup (pv 0) (pv 7) (fun _ _ => rfl)) (pg_tup (by rfl) (pgs_cons (pg_name (i := 8) sc_law_rest.nd rfl (Or.inl rfl)) (pgs_cons (pg_name (i := 9) sc_law_rest.nd rfl (Or.inl rfl)) pgs_nil))))
      (pss_cons (ps_par (i := 5) (j := 6) (by rfl) sc_law_rest.nd rfl rfl (by decide) rfl rfl (pa_cons (pe_op op_add (pv 5) pe_int) (pa_cons (pe_op op_add (pv 6) pe_int) pa_nil)) (by rfl))
      (pss_one (ps_if (PW.pt (pw_and (pt_cmpR op_gt (pv 1) (pv 8) (nomark _)) (pw_and1 (PW.pt (pw_or (pt_cmpR op_isN (pv 9) pe_non (nomark _)) (pw_or1 (pt_cmpR op_lt (pe_ix ix_list (pv 3) (pv 7) (fun _ _ => rfl)) (pv 9) (nomark _))))))))
      (pss_cons (ps_asg (pe_tup (pa_cons (pe_op op_add (pe_ix ix_list (pv 3) (pv 7) (fun _ _ => rfl)) pe_int) (pa_cons (pe_op op_sub (pv 1) pe_int) (pa_cons pe_int pa_nil)))) (pg_tup (by rfl) (pgs_cons (pg_sub (pv 3) (pv 7) set_list) (pgs_cons (pg_name (i := 1) sc_law_rest.nd rfl (Or.inl rfl)) (pgs_cons (pg_name (i := 6) sc_law_rest.nd rfl (Or.inl rfl)) pgs_nil)))))
      (pss_one (ps_expr (pe_bm PySem.F.plainAttrs_list PySem.F.slot_list_append PySem.F.type_list_append mt_append (pv 4) (pa_cons (pe_tup (pa_cons (pv 7) (pa_cons (pv 5) pa_nil))) pa_nil)))))
      pss_nil))))))
      (pss_one (ps_ret (pe_tup (pa_cons (pv 3) (pa_cons (pv 1) (pa_cons (pv 4) pa_nil)))))))), ?_⟩
    -- had, takings, visits, idle
    refine ⟨by show 1 ≤ sizeLine; decide, fun z hz => ?_⟩
    refine ⟨_, rfl, a, xs, rfl, .inr (Same.sqt (same_upd hz) hx), z, _, _, rfl, rfl, upd_same, by omega, by omega, ?_, fun lh hlh => ?_⟩
    · show 1 * ((xs.length : Nat) : Int).toNat ≤ sizeLine
      exact Nat.le_of_lt (small1000 (by omega))
    refine ⟨Nat.zero_le _, fun lt hlt => ?_⟩
    refine ⟨by show 4 ≤ sizeLine; decide, fun q0 hq0 => ⟨q0, _, rfl, SqT.of upd_same, rfl, _, _, rfl, _, _, rfl, _, _, rfl, _, _, rfl, rfl, ?_⟩⟩
    have s1 : Same H (upd H z (.lst [.int 0])) := same_upd hz
    have nh : H lh = none := s1.free hlh
    have s2 := s1.trans (same_upd (o := .lst (List.replicate ((xs.length : Nat) : Int).toNat [V.int 0]).flatten) hlh)
    have nt : H lt = none := s2.free hlt
    have s3 := s2.trans (same_upd (o := .lst []) hlt)
    have s4 := s3.trans (same_upd (o := .tup [.ref lh, .ref lt, .int 0, .int 0]) hq0)
    have nht : lh ≠ lt := fun e => by rw [e, upd_same] at hlt; cases hlt
    -- the loop
    have look : ∀ H', Same H H' → SqT K H' a xs := fun H' s' => Same.sqt s' hx
    refine ⟨fun m σ H' => ∃ (k idle : Nat) (ps : List Addr) (v7 v8 v9 : Option V), σ = [some (.ref a), some (.int (St8 t fs d k).left), some (.int (fs : Int)), some (.ref lh), some (.ref lt), some (.int (k : Int)), some (.int (idle : Int)), v7, v8, v9] ∧
      Same H H' ∧ H' lh = some (.lst ((D.hadL t.length (St8 t fs d k).had).map V.int)) ∧ H' lt = some (.lst (ps.map V.ref)) ∧ Takings K H' t fs d k ps ∧ Idle t fs d k idle ∧ idle ≤ t.length ∧ m = (St8 t fs d k).left.toNat * (t.length + 1) + (t.length - idle),
      ⟨_, 0, 0, [], none, none, none, rfl, s4, ?_, ?_, ⟨?_, fun j p h => by cases h⟩, ⟨Nat.le_refl _, fun j h => absurd h (Nat.not_lt_zero _)⟩, Nat.zero_le _, rfl⟩, ?_⟩
    · rw [upd_ne (ne_of_none (by rw [upd_ne nht, upd_same]) hq0), upd_ne nht, upd_same, Int.toNat_natCast, hl, rep_flat]
      show _ = some (HO.lst ((D.hadL t.length fun _ => 0).map V.int))
      rw [D.hadL_zero, List.map_replicate]
    · rw [upd_ne (ne_of_none upd_same hq0), upd_same]
      rfl
    · show (0 : Int) = d - d
      omega
    rintro m σ H1 ⟨k, idle, ps, v7, v8, v9, rfl, sm, hh, ht, tk, id, idn, rfl⟩
    refine ⟨_, rfl, _, rfl, a, xs, rfl, .inr (look _ sm), _, _, rfl, rfl, _, rfl, ?_⟩
    refine ite2 (fun c0 => ?_) (fun c0 => ?_)
    rotate_left
    · have q0 := idle_quiet ok id (by
        have : ¬ ((idle : Int) < (xs.length : Int)) := fun z => c0 (decide_eq_true z)
        omega)
      have e := fin_at ok hd q0
      refine ⟨_, rfl, _, rfl, _, rfl, by show 3 ≤ sizeLine; decide, fun q hq => ?_⟩
      have sq : Same H1 (upd H1 q (.tup [.ref lh, .int (St8 t fs d k).left, .ref lt])) := same_upd hq
      refine kq q lh lt ps k _ (sm.trans sq) nh nt ?_ ?_ (sq _ _ ht) ⟨tk.1, fun j p hp => ?_⟩ e
      · rw [upd_same, e]
      · have hh' := hh
        rw [e] at hh'
        exact sq _ _ hh'
      · obtain ⟨n, h1, h2, h3⟩ := tk.2 j p hp
        exact ⟨n, h1, sq _ _ h2, h3⟩
    have idl : idle < t.length := by
      have := of_decide_eq_true c0
      omega
    refine ⟨fun σ' H' => ∃ m', m' < (St8 t fs d k).left.toNat * (t.length + 1) + (t.length - idle) ∧ ∃ (k idle : Nat) (ps : List Addr) (v7 v8 v9 : Option V), σ' = [some (.ref a), some (.int (St8 t fs d k).left), some (.int (fs : Int)), some (.ref lh), some (.ref lt), some (.int (k : Int)), some (.int (idle : Int)), v7, v8, v9] ∧
      Same H H' ∧ H' lh = some (.lst ((D.hadL t.length (St8 t fs d k).had).map V.int)) ∧ H' lt = some (.lst (ps.map V.ref)) ∧ Takings K H' t fs d k ps ∧ Idle t fs d k idle ∧ idle ≤ t.length ∧ m' = (St8 t fs d k).left.toNat * (t.length + 1) + (t.length - idle), fun _ _ h => h, ?_⟩
    -- seat
    refine ⟨_, rfl, _, rfl, _, _, rfl, rfl, _, rfl, a, xs, rfl, .inr (look _ sm), _, _, rfl, rfl, by omega, ?_⟩
    have hi : (fs + k) % t.length < t.length := Nat.mod_lt _ hn
    have es : ((fs : Int) + (k : Int)) % (xs.length : Int) = (((fs + k) % t.length : Nat) : Int) := by
      rw [hl, Int.natCast_emod, Int.natCast_add]
    obtain ⟨p, e1, hp⟩ := hg _ _ (get_of hi)
    have hp1 := Same.sqt sm hp
    -- courtesy, enough
    refine ⟨_, rfl, _, rfl, a, xs, _, _, rfl, rfl, look _ sm, at_of es e1, p, _, rfl, hp1, rfl, _, _, rfl, _, _, rfl, rfl, ?_⟩
    -- visits, idle
    refine ⟨_, rfl, _, _, rfl, rfl, _, rfl, _, _, rfl, rfl, _, _, rfl, ?_⟩
    have stp : St8 t fs d (k + 1) = D.vis (D.gs t) (St8 t fs d k) ((fs + k) % t.length) := rfl
    -- nothing is taken
    have no : ¬ D.wants (D.gs t) (St8 t fs d k) ((fs + k) % t.length) → ∀ (v7 v8 v9 : Option V), ∃ m', m' < (St8 t fs d k).left.toNat * (t.length + 1) + (t.length - idle) ∧ ∃ (k' idle' : Nat) (ps : List Addr) (w7 w8 w9 : Option V), ([some (.ref a), some (.int (St8 t fs d k).left), some (.int (fs : Int)), some (.ref lh), some (.ref lt), some (.int ((k : Int) + 1)), some (.int ((idle : Int) + 1)), v7, v8, v9] : L2.St) = [some (.ref a), some (.int (St8 t fs d k').left), some (.int (fs : Int)), some (.ref lh), some (.ref lt), some (.int (k' : Int)), some (.int (idle' : Int)), w7, w8, w9] ∧
        Same H H1 ∧ H1 lh = some (.lst ((D.hadL t.length (St8 t fs d k').had).map V.int)) ∧ H1 lt = some (.lst (ps.map V.ref)) ∧ Takings K H1 t fs d k' ps ∧ Idle t fs d k' idle' ∧ idle' ≤ t.length ∧ m' = (St8 t fs d k').left.toNat * (t.length + 1) + (t.length - idle') := fun w v7 v8 v9 => by
      have e : St8 t fs d (k + 1) = St8 t fs d k := by rw [stp, D.vis_no w]
      refine ⟨_, ?_, k + 1, idle + 1, ps, v7, v8, v9, ?_, sm, ?_, ht, ⟨?_, fun j p hp => ?_⟩, ⟨by have := id.1; omega, fun j hj => ?_⟩, by omega, rfl⟩
      · rw [e]
        omega
      · rw [e]
        rfl
      · rw [e]
        exact hh
      · rw [e]
        exact tk.1
      · obtain ⟨n, h1, h2, h3⟩ := tk.2 j p hp
        exact ⟨n, by omega, h2, h3⟩
      · rw [e]
        by_cases j0 : j = 0
        · subst j0
          rw [show k + 1 - 1 - 0 = k by omega]
          exact w
        · have := id.2 (j - 1) (by omega)
          rw [show k - 1 - (j - 1) = k + 1 - 1 - j by have := id.1; omega] at this
          exact this
    -- a piece is taken
    refine ⟨_, rfl, _, rfl, _, _, rfl, rfl, _, rfl, ?_⟩
    refine ite2 (fun c1 => ?_) (fun c1 => ?_)
    rotate_left
    · exact iteF (no (fun w => c1 (decide_eq_true w.1)) _ _ _)
    have l1 := of_decide_eq_true c1
    refine or_enough (o := (D.gs t ((fs + k) % t.length)).2) rfl rfl rfl (SqL.of hh) (at_of es (map_at (D.hadL_get _ hi))) ?_
    refine ite2 (fun c2 => ?_) (fun c2 => no (fun w => c2 (enoughB_iff.mpr w.2)) _ _ _)
    have wt : D.wants (D.gs t) (St8 t fs d k) ((fs + k) % t.length) := ⟨l1, enoughB_iff.mp c2⟩
    refine ⟨_, rfl, _, rfl, lh, _, _, _, rfl, rfl, SqL.of hh, at_of es (map_at (D.hadL_get _ hi)), _, _, rfl, rfl, _, rfl, _, _, rfl, rfl, by show 3 ≤ sizeLine; decide, fun r hrr => ?_⟩
    have sr : Same H1 (upd H1 r (.tup [.int ((St8 t fs d k).had ((fs + k) % t.length) + 1), .int ((St8 t fs d k).left - 1), .int 0])) := same_upd hrr
    have ixn : ixN ((D.hadL t.length (St8 t fs d k).had).map V.int).length (((fs : Int) + (k : Int)) % (xs.length : Int)) = some ((fs + k) % t.length) := by
      rw [es]
      exact ixN_nat (by rw [List.length_map, D.hadL_len]; exact hi)
    refine ⟨r, _, rfl, SqT.of upd_same, rfl, _, _, rfl, _, rfl, _, rfl, lh, _, _, _, rfl, rfl, sr _ _ hh, ixn, _, _, rfl, _, _, rfl, rfl, ?_⟩
    -- takings.append((seat, visits))
    have nlt : lt ≠ lh := fun e => by
      rw [e, hh] at ht
      have z := HO.lst.inj (Option.some.inj ht)
      have hlen : (D.hadL t.length (St8 t fs d k).had).length = t.length := D.hadL_len _ _
      cases q : D.hadL t.length (St8 t fs d k).had with
      | nil => rw [q] at hlen; simp at hlen; omega
      | cons _ _ =>
        rw [q] at z
        cases ps with
        | nil => cases z
        | cons _ _ => cases z
    have ht2 : (upd (upd H1 r (.tup [.int ((St8 t fs d k).had ((fs + k) % t.length) + 1), .int ((St8 t fs d k).left - 1), .int 0])) lh (.lst (((D.hadL t.length (St8 t fs d k).had).map V.int).set ((fs + k) % t.length) (.int ((St8 t fs d k).had ((fs + k) % t.length) + 1))))) lt = some (.lst (ps.map V.ref)) := by
      rw [upd_ne nlt]
      exact sr _ _ ht
    refine ⟨_, rfl, .inl ⟨rfl, _, SqL.of ht2⟩, _, rfl, _, rfl, by show 2 ≤ sizeLine; decide, fun u hu => ?_⟩
    have su := same_upd (o := .tup [.int (((fs : Int) + (k : Int)) % (xs.length : Int)), .int ((k : Int) + 1)]) hu
    have cnt := tk.1
    have dl : d - (St8 t fs d k).left ≤ 1000000 := by
      have := D.left_nonneg (f := fs) (d := d) hn (fun i hi => guest_pos ok i hi) hd k
      have e : (St8 t fs d k).left = (D.run (D.gs t) t.length fs d k).left := rfl
      omega
    refine ⟨lt, _, _, rfl, rfl, su _ _ ht2, by rw [List.length_map, sizeLine_eq]; omega, ?_⟩
    have el : (St8 t fs d (k + 1)).left = (St8 t fs d k).left - 1 := by rw [stp, D.vis_yes wt]
    have cpos := guest_pos ok _ hi
    have nru : u ≠ lh := fun e => by rw [e, upd_same] at hu; cases hu
    have nul : u ≠ lt := fun e => by rw [e, ht2] at hu; cases hu
    refine ⟨_, ?_, k + 1, 0, ps ++ [u], some (.int (((fs : Int) + (k : Int)) % (xs.length : Int))), some (.int (D.gs t ((fs + k) % t.length)).1), some (optV (D.gs t ((fs + k) % t.length)).2), ?_, ?_, ?_, ?_, ⟨?_, fun j p' hp' => ?_⟩, ⟨Nat.zero_le _, fun j h => absurd h (Nat.not_lt_zero _)⟩, Nat.zero_le _, rfl⟩
    · rw [el]
      have e1 : ((St8 t fs d k).left - 1).toNat + 1 = (St8 t fs d k).left.toNat := by omega
      rw [← e1, Nat.succ_mul]
      omega
    · rw [el]
      rfl
    · exact upd_kept (Same.trans (upd_kept (sm.trans sr) nh) su) nt
    · rw [upd_ne (Ne.symm nlt), su _ _ upd_same, map_set, D.hadL_bump _ hi, stp, D.vis_yes wt]
    · rw [upd_same, List.map_append]
      rfl
    · rw [el, List.length_append, List.length_singleton]
      omega
    · have keep : ∀ (q : Addr) (ys : List V), H1 q = some (.tup ys) → (upd (upd (upd (upd H1 r (.tup [.int ((St8 t fs d k).had ((fs + k) % t.length) + 1), .int ((St8 t fs d k).left - 1), .int 0])) lh (.lst (((D.hadL t.length (St8 t fs d k).had).map V.int).set ((fs + k) % t.length) (.int ((St8 t fs d k).had ((fs + k) % t.length) + 1))))) u (.tup [.int (((fs : Int) + (k : Int)) % (xs.length : Int)), .int ((k : Int) + 1)])) lt (.lst (ps.map V.ref ++ [.ref u]))) q = some (.tup ys) := fun q ys hq => by
        rw [upd_ne (ne_of hq ht (by intro z; cases z))]
        refine su _ _ ?_
        rw [upd_ne (ne_of hq hh (by intro z; cases z))]
        exact sr _ _ hq
      by_cases hj : j < ps.length
      · rw [List.getElem?_append_left hj] at hp'
        obtain ⟨n, h1, h2, h3⟩ := tk.2 j p' hp'
        exact ⟨n, by omega, keep _ _ h2, h3⟩
      · have ej : j = ps.length := by
          have := (List.getElem?_eq_some_iff.mp hp').1
          rw [List.length_append, List.length_singleton] at this
          omega
        rw [List.getElem?_append_right (by omega), ej, Nat.sub_self] at hp'
        cases hp'
        refine ⟨k, Nat.lt_succ_self k, ?_, by omega, by omega⟩
        rw [upd_ne nul, upd_same]
        show some (HO.tup [V.int (((fs : Int) + (k : Int)) % (xs.length : Int)), V.int ((k : Int) + 1)]) = _
        rw [es]
        rfl
end
end Lp
namespace Lp
open PySem PySem.Spec PyProof.Rows L2
def spLaw (K : PySem.W.Frag) : Sp := fun vs H Q _ => ∃ (a : Addr) (ns : List Int), vs = [.ref a] ∧ SqL K H a (ns.map V.int) ∧ ns.length ≤ 63 ∧ ∀ H', Q (.bl true) H'
/-- a constant as the last argument -/
theorem arg1 {σ : L2.St} {H : Hp} {v : V} {k : List V → Hp → Prop} (h : k [v] H) : tCons (tC v) tNil σ H k := h
theorem for_range0 {n : Nat} {g : TG} {tb : TS} {D : Ends} {σ : L2.St} {H : Hp} (Pv : Nat → L2.St → Hp → Prop) (h0 : Pv 0 σ H)
    (hs : ∀ i σ H, i < n → Pv i σ H → g (.int (i : Int)) σ H fun σ2 H2 => tb { D with nx := Pv (i + 1), ct := Pv (i + 1), bk := D.nx } σ2 H2) (hd : ∀ σ H, Pv n σ H → D.nx σ H) :
    ∃ W : Nat → Nat → L2.St → Hp → Prop, (∃ m, W 0 m σ H) ∧ ∀ i m σ H, W i m σ H →
      ((Itr 0 n).stop i H ∧ D.nx σ H) ∨ ((Itr 0 n).go i H ∧ ∃ N : L2.St → Hp → Prop, (∀ σ' H', N σ' H' → ∃ m', m' < m ∧ W (i + 1) m' σ' H') ∧ ∀ x H', (Itr 0 n).yld i H x H' → g x σ H' fun σ2 H2 => tb { D with nx := N, ct := N, bk := D.nx } σ2 H2) :=
  for_range (lo := 0) Pv h0 (fun i σ H hi p => by rw [Int.zero_add]; exact hs i σ H hi p) hd
theorem finL_len (t : List Guest) (f : Nat) (d : Int) : (finL t f d).length = t.length := D.hadL_len _ _
theorem finL_get {t : List Guest} {f : Nat} {d : Int} {i : Nat} (hi : i < t.length) : (finL t f d)[i]? = some ((Fin t f d).had i) := D.hadL_get _ hi
theorem gs_at {t : List Guest} {i : Nat} {g : Guest} (h : t[i]? = some g) : D.gs t i = g := by
  show t.getD i (0, none) = g
  rw [List.getD_eq_getElem?_getD, h]
  rfl
theorem fin_sum {t : List Guest} (ok : TabOk t) (f : Nat) (d : Int) : (finL t f d).sum + (Fin t f d).left = d := by
  have := D.run_sum (g := D.gs t) (f := f) (d := d) ok.1 (D.enoughVisits t.length d)
  have e : (finL t f d).sum = D.total t.length (Fin t f d).had := D.total_hadL _ _
  rw [e]
  exact this
theorem fin_le {t : List Guest} (ok : TabOk t) (f : Nat) {d : Int} (hd : 0 ≤ d) : 0 ≤ (Fin t f d).left ∧ (Fin t f d).left ≤ d :=
  ⟨D.left_nonneg ok.1 (fun i hi => guest_pos ok i hi) hd _, D.left_le _⟩
theorem nx_mk {nx ct bk : L2.St → Hp → Prop} {rt : VK} {σ : L2.St} {H : Hp} (h : nx σ H) : Ends.nx { nx := nx, ct := ct, bk := bk, rt := rt } σ H := h
theorem c_mk {v : V} {σ : L2.St} {H : Hp} {Q : VK} (h : Q v H) : tC v σ H Q := h
theorem no_ne {x : V} {Q : Bool → Hp → Prop} {H : Hp} (h : Q false H) : Q (!decide (x = x)) H := by
  rw [decide_eq_true rfl]
  exact h
theorem next_mk {nx ct bk : L2.St → Hp → Prop} {rt : VK} {σ : L2.St} {H : Hp} (h : nx σ H) : tNext { nx := nx, ct := ct, bk := bk, rt := rt } σ H := h
/-- «if T: ..» where T is false, whatever stands behind it -/
theorem guardS {T : TT} {A B C : TS} {D : Ends} {σ : L2.St} {H : Hp} (hx : ∀ Q' : Bool → Hp → Prop, (∀ H', Same H H' → Q' false H') → T σ H Q') (hq : ∀ H', Same H H' → B { D with nx := C D } σ H') : tSeq (tIfS T A B) C D σ H :=
  hx _ fun H' s => iteF (hq H' s)
theorem guardE {T : TT} {A B : TS} {D : Ends} {σ : L2.St} {H : Hp} (hx : ∀ Q' : Bool → Hp → Prop, (∀ H', Same H H' → Q' false H') → T σ H Q') (hq : ∀ H', Same H H' → B D σ H') : tIfS T A B D σ H :=
  hx _ fun H' s => iteF (hq H' s)
section
variable {K : PySem.W.Frag} {H : Hp}
theorem ne_same {a b : Addr} {ns : List Int} {Q : VK} (h1 : SqL K H a (ns.map V.int)) (h2 : SqL K H b (ns.map V.int)) (q : Q (.bl false) H) : rNeD K (.ref a) (.ref b) H Q :=
  ne_ints h1 h2 (by rw [decide_eq_true rfl]; exact q)
theorem eq_same {a b : Addr} {ns : List Int} {Q : VK} (h1 : SqL K H a (ns.map V.int)) (h2 : SqL K H b (ns.map V.int)) (q : Q (.bl true) H) : rEqD K (.ref a) (.ref b) H Q :=
  eq_ints h1 h2 (by rw [decide_eq_true rfl]; exact q)
/-- a list of ints is a list -/
theorem isi_ints {a : Addr} {ns : List Int} {Q : VK} (h : SqL K H a (ns.map V.int)) (q : Q (.bl true) H) : rIsi K [.ref a, .ty "list"] H Q :=
  ⟨_, _, _, _, _, rfl, .ty _, tyx (dp_ints h), kit_l _ _, q⟩
/-- x != x -/
theorem if_ne {x : V} {A B : Prop} (h : B) : if (!decide (x = x)) = true then A else B := by
  rw [decide_eq_true rfl]
  exact iteF h
end
end Lp
namespace Lp
open PySem PySem.Spec PyProof.Rows L2
theorem cut_take (xs : List V) (p : Nat) : cutV xs none (some (p : Int)) = xs.take p := by
  unfold cutV
  rw [HT.sIx_none, HT.sIx_nat, Nat.sub_zero, List.drop_zero, ← List.take_take, List.take_length]
theorem cut_drop (xs : List V) (p : Nat) : cutV xs (some (p : Int)) none = xs.drop p := by
  unfold cutV
  rw [HT.sIx_none, HT.sIx_nat]
  by_cases h : p ≤ xs.length
  · rw [Nat.min_eq_left h, List.take_of_length_le (by rw [List.length_drop]; exact Nat.le_refl _)]
  · rw [Nat.min_eq_right (by omega), Nat.sub_self, List.take_zero, List.drop_eq_nil_of_le (by omega)]
theorem nil_mk {σ : L2.St} {H : Hp} {k : List V → Hp → Prop} (h : k [] H) : tNil σ H k := h
theorem np_mk {σ : L2.St} {H : Hp} {k : Option Int → Hp → Prop} (h : k none H) : tNoPart σ H k := h
section
variable {P : Program} {w : World} {K : PySem.W.Frag} {mg : Str → Option Value} {base : Heap} {H : Hp} {Q : VK}
/-- t + u of any tuples -/
theorem cat_any {a b : Addr} {xs ys : List V} (h1 : SqT K H a xs) (h2 : SqT K H b ys) (hl : xs.length + ys.length ≤ 1000) (q : ∀ (r : Addr) (H' : Hp), Same H H' → SqT K H' r (xs ++ ys) → Q (.ref r) H') : rCatA K (.ref a) (.ref b) H Q :=
  ⟨a, b, xs, ys, rfl, rfl, h1, h2, Nat.le_of_lt (small1000 hl), fun e => q b H (Same.refl _) (by rw [e]; exact h2), fun _ e => q a H (Same.refl _) (by rw [e, List.append_nil]; exact h1),
    fun _ _ p hp => q p _ (same_upd hp) (SqT.of upd_same)⟩
theorem cat_list {a b : Addr} {xs ys : List V} (h1 : H a = some (.lst xs)) (h2 : H b = some (.lst ys)) (hl : xs.length + ys.length ≤ 1000) (q : ∀ (r : Addr) (H' : Hp), Same H H' → H' r = some (.lst (xs ++ ys)) → Q (.ref r) H') : rCat (.ref a) (.ref b) H Q :=
  ⟨a, b, xs, ys, rfl, rfl, h1, h2, Nat.le_of_lt (small1000 hl), fun p hp => q p _ (same_upd hp) upd_same⟩
theorem rep_list {a : Addr} {x : V} {n : Int} (h1 : H a = some (.lst [x])) (h0 : 0 ≤ n) (hn : n ≤ 1000) (q : ∀ (r : Addr) (H' : Hp), Same H H' → H' r = some (.lst (List.replicate n.toNat x)) → Q (.ref r) H') : rRep (.ref a) (.int n) H Q :=
  ⟨a, n, _, rfl, rfl, h1, by omega, by omega, by
    show 1 * n.toNat ≤ sizeLine
    exact Nat.le_of_lt (small1000 (by omega)), fun p hp => q p _ (same_upd hp) (by rw [upd_same, rep_flat])⟩
theorem cut_list {a : Addr} {xs : List V} {lo hi : Option Int} (h : SqL K H a xs) (q : ∀ (r : Addr) (H' : Hp), Same H H' → H' r = some (.lst (cutV xs lo hi)) → Q (.ref r) H') : rSlL K (.ref a) lo hi H Q :=
  ⟨a, xs, rfl, h, fun p hp => q p _ (same_upd hp) upd_same⟩
theorem sorted_any {a : Addr} {ns : List Int} (h : SqL K H a (ns.map V.int)) (hl : ns.length < 64) (q : ∀ (ns' : List Int) (r : Addr) (H' : Hp), ns'.Perm ns → ns'.Pairwise (· ≤ ·) → Same H H' → H' r = some (.lst (ns'.map V.int)) → Q (.ref r) H') : rSorted K [.ref a] H Q :=
  ⟨a, ns, rfl, h, hl, fun ns' p h1 h2 hp => q ns' p _ h1 h2 (same_upd hp) upd_same⟩
/-- the tuples of the guests, at any addresses -/
theorem TableAt.ofRefs {a : Addr} {xs : List V} {t : List Guest} (h : SqT K H a xs) (hl : xs.length = t.length) (hg : ∀ (i : Nat) (g : Guest), t[i]? = some g → ∃ p : Addr, xs[i]? = some (.ref p) ∧ SqT K H p [.int g.1, optV g.2]) : TableAt K H a t := by
  have key : ∀ (xs : List V) (t : List Guest), xs.length = t.length → (∀ (i : Nat) (g : Guest), t[i]? = some g → ∃ p : Addr, xs[i]? = some (.ref p) ∧ SqT K H p [.int g.1, optV g.2]) → ∃ ps : List Addr, xs = ps.map V.ref ∧ ps.length = t.length ∧ ∀ (i : Nat) (g : Guest) (p : Addr), t[i]? = some g → ps[i]? = some p → SqT K H p [.int g.1, optV g.2] := by
    intro xs
    induction xs with
    | nil =>
      intro t hl _
      exact ⟨[], rfl, hl, fun _ _ _ _ h => by cases h⟩
    | cons x xs ih =>
      intro t hl hg
      cases t with
      | nil => cases hl
      | cons g t =>
        obtain ⟨ps, e1, e2, e3⟩ := ih t (by simpa using hl) fun i g' h => hg (i + 1) g' h
        obtain ⟨p, e4, e5⟩ := hg 0 g rfl
        cases e4
        refine ⟨p :: ps, by rw [e1]; rfl, by simp [e2], fun i g' p' h1 h2 => ?_⟩
        cases i with
        | zero => cases h1; cases h2; exact e5
        | succ i => exact e3 i g' p' h1 h2
  obtain ⟨ps, rfl, e2, e3⟩ := key xs t hl hg
  exact .mk h e2 e3
end
end Lp
namespace Lp
open PySem PySem.Spec PyProof.Rows L2
section
variable {P : Program} {w : World} {K : PySem.W.Frag} {mg : Str → Option Value} {base : Heap}
/-- _law_with and with_guest -/
def spWith (K : PySem.W.Frag) : Sp := fun vs H Q _ => ∃ (a : Addr) (t : List Guest) (p : Nat) (u : Addr) (g : Guest), vs = [.ref a, .int (p : Int), .ref u] ∧ TableAt K H a t ∧ t.length ≤ 8 ∧ p < t.length ∧ SqT K H u [.int g.1, optV g.2] ∧
  ∀ (a' : Addr) (H' : Hp), Same H H' → TableAt K H' a' (t.set p g) → Q (.ref a') H'
theorem take_drop_set {α : Type} (l : List α) {p : Nat} (hp : p < l.length) (x : α) : l.take p ++ [x] ++ l.drop (p + 1) = l.set p x := by
  rw [List.set_eq_take_append_cons_drop, if_pos hp, List.append_assoc]
  rfl
theorem sc_law_with : FnScope ["table", "seat", "guest"] ["table", "seat", "guest"] (defScope s_law_with) := ⟨rfl, rfl, rfl, by decide +kernel, rfl, by decide +kernel, by decide +kernel⟩
theorem ok_lwith {f : Addr} {fd : FuncData} (F : L2.Fun K "_law_with" "_law_with" s_law_with f fd) : FnOk P w K mg base L2.CX0 1 f fd ["table", "seat", "guest"] (spWith K) := by
  refine F.ok sc_law_with (fun vs H Q E h => ?_) (fun cdv A outer s H vs Q E hr h => ?_)
  · obtain ⟨a, t, p, u, g, rfl, _⟩ := h
    rfl
  · obtain ⟨a, t, p, u, g, rfl, tb, n8, hp, hu, k⟩ := h
    obtain ⟨xs, hx, hl, hg⟩ := tb.open
    refine ⟨_, (pss_one (ps_ret (pe_op op_catA (pe_op op_catA (pe_slice sl_tup (pv 0) po_none (po_some (pv 1))) (pe_tup (pa_cons (pv 2) pa_nil))) (pe_slice sl_tup (pv 0) (po_some (pe_op op_add (pv 1) pe_int)) po_none)))), ?_⟩
    refine ⟨_, rfl, _, rfl, _, rfl, a, xs, rfl, hx, ?_, fun r1 hr1 => ?_⟩
    · rw [HT.sIx_none, HT.sIx_nat]
      omega
    rw [cut_take]
    have s1 := same_upd (o := .tup (xs.take p)) hr1
    refine ⟨_, rfl, by show 1 ≤ sizeLine; decide, fun r2 hr2 => ?_⟩
    have s2 := same_upd (o := .tup [.ref u]) hr2
    have s12 := Same.trans s1 s2
    refine cat_any (SqT.of (s2 _ _ upd_same)) (SqT.of upd_same) (by rw [List.length_take]; show _ + 1 ≤ 1000; omega) fun r3 H3 s3 h3 => ?_
    have s13 := Same.trans s12 s3
    refine ⟨_, rfl, _, rfl, _, _, rfl, rfl, _, rfl, a, xs, rfl, Same.sqt s13 hx, ?_, fun r4 hr4 => ?_⟩
    · rw [HT.sIx_none]
      show ¬ (HT.sIx xs.length 0 (some ((p + 1 : Nat) : Int)) = 0 ∧ _)
      rw [HT.sIx_nat]
      omega
    have e4 : cutV xs (some ((p : Int) + 1)) none = xs.drop (p + 1) := cut_drop xs (p + 1)
    have s4 := same_upd (o := .tup (cutV xs (some ((p : Int) + 1)) none)) hr4
    refine cat_any (Same.sqt s4 h3) (SqT.of upd_same) ?_ fun r5 H5 s5 h5 => ?_
    · rw [e4, List.length_append, List.length_take, List.length_drop]
      show _ + 1 + _ ≤ _
      omega
    have s15 := Same.trans (Same.trans s13 s4) s5
    rw [e4, take_drop_set xs (by omega)] at h5
    refine k r5 H5 s15 (.ofRefs h5 (by rw [List.length_set, List.length_set, hl]) fun i g' hi => ?_)
    by_cases e : i = p
    · subst e
      rw [List.getElem?_set_self hp] at hi
      cases hi
      exact ⟨u, by rw [List.getElem?_set_self (by omega)], Same.sqt s15 hu⟩
    · rw [List.getElem?_set_ne (Ne.symm e)] at hi
      obtain ⟨q, h1, h2⟩ := hg i g' hi
      exact ⟨q, by rw [List.getElem?_set_ne (Ne.symm e)]; exact h1, Same.sqt s15 h2⟩
end
end Lp
namespace Lp
open PySem PySem.Spec PyProof.Rows L2
section
variable {K : PySem.W.Frag} {H : Hp} {Q : VK}
theorem arg7 {c : V} {t : TA} {σ : L2.St} {H : Hp} {k : List V → Hp → Prop} (h : t σ H fun xs H' => k (c :: xs) H') : tCons (tC c) t σ H k := h
theorem part_mk {te : TE} {σ : L2.St} {H : Hp} {k : Option Int → Hp → Prop} (h : te σ H fun x H1 => ∃ i, x = .int i ∧ k (some i) H1) : tPart te σ H k := h
/-- t[lo:] -/
theorem cut_from {a : Addr} {xs : List V} {p : Nat} (h : SqT K H a xs) (q : ∀ (r : Addr) (H' : Hp), Same H H' → SqT K H' r (xs.drop p) → Q (.ref r) H') : rSlA K (.ref a) (some (p : Int)) none H Q := by
  refine ⟨a, xs, rfl, h, fun w => q a H (Same.refl _) ?_, fun _ u hu => q u _ (same_upd hu) (by rw [← cut_drop]; exact SqT.of upd_same)⟩
  rw [HT.sIx_nat] at w
  by_cases c : p = 0
  · rw [c]; exact h
  · have : xs.length = 0 := by omega
    have e : xs = [] := List.eq_nil_of_length_eq_zero this
    rw [e, List.drop_nil, ← e]
    exact h
/-- t[:hi] -/
theorem cut_to {a : Addr} {xs : List V} {p : Nat} (h : SqT K H a xs) (q : ∀ (r : Addr) (H' : Hp), Same H H' → SqT K H' r (xs.take p) → Q (.ref r) H') : rSlA K (.ref a) none (some (p : Int)) H Q := by
  refine ⟨a, xs, rfl, h, fun w => q a H (Same.refl _) ?_, fun _ u hu => q u _ (same_upd hu) (by rw [← cut_take]; exact SqT.of upd_same)⟩
  rw [HT.sIx_nat] at w
  rw [List.take_of_length_le (by omega)]
  exact h
end
end Lp
namespace Lp
open PySem PySem.Spec PyProof.Rows L2
/-! ### t[::-1], t a tuple -/
theorem back_pick (xs : Array Value) : ((List.range xs.size).filterMap fun (m : Nat) => xs[(((xs.size : Int) - 1) + (m : Int) * (-1)).toNat]?) = xs.toList.reverse := by
  have key : ∀ k, k ≤ xs.size → ((List.range k).filterMap fun (m : Nat) => xs[(((xs.size : Int) - 1) + (m : Int) * (-1)).toNat]?) = (List.range k).map fun m => xs.toList.getD (xs.size - 1 - m) .none := by
    intro k
    induction k with
    | zero => intro _; rfl
    | succ k ih =>
      intro hk
      rw [List.range_succ, List.filterMap_append, List.map_append, ih (by omega)]
      congr 1
      have e : xs[(((xs.size : Int) - 1) + (k : Int) * (-1)).toNat]? = some (xs.toList.getD (xs.size - 1 - k) .none) := by
        rw [show (((xs.size : Int) - 1) + (k : Int) * (-1)).toNat = xs.size - 1 - k by omega, ← Array.getElem?_toList, List.getD_eq_getElem?_getD, List.getElem?_eq_getElem (by rw [Array.length_toList]; omega)]
        rfl
      rw [List.filterMap_cons_some (f := fun (m : Nat) => xs[(((xs.size : Int) - 1) + (m : Int) * (-1)).toNat]?) (a := k) e]
      rfl
  rw [key xs.size (Nat.le_refl _)]
  apply List.ext_getElem?
  intro i
  by_cases hi : i < xs.size
  · rw [List.getElem?_map, List.getElem?_range hi, List.getElem?_reverse (by rw [Array.length_toList]; exact hi), Array.length_toList]
    show some (xs.toList.getD (xs.size - 1 - i) .none) = _
    rw [List.getD_eq_getElem?_getD, List.getElem?_eq_getElem (by rw [Array.length_toList]; omega)]
    rfl
  · rw [List.getElem?_eq_none (by simp; omega), List.getElem?_eq_none (by simp; omega)]
theorem adjust_back (n : Nat) : Builtin.Slice.sliceAdjust none none (-1) (n : Int) = ((n : Int) - 1, -1) := by
  unfold Builtin.Slice.sliceAdjust
  rfl
theorem places_back (n : Nat) : Builtin.Slice.slicePlaces ((n : Int) - 1) (-1) (-1) = n := by
  unfold Builtin.Slice.slicePlaces
  rw [if_neg (by decide)]
  by_cases h : (n : Int) - 1 > -1
  · rw [if_pos h, show (n : Int) - 1 - -1 - 1 = (n : Int) - 1 by omega, show -(-1 : Int) = 1 from rfl, Int.ediv_one]
    omega
  · rw [if_neg h]
    omega
section
variable {prog : Program} {w : World} {A : Around} {E : Value → Shared → Prop} {s : Shared}
theorem applied_back {sl : Addr} {t : Tok} {n : Nat} {Q : Int × Int × Nat → Shared → Prop} (hs : s.heap.IsSliceOf sl .none .none (.int (-1) t)) (h : Q ((n : Int) - 1, -1, n) s) :
    wpAny (model prog w) A (Builtin.Slice.sliceApplied (.ref sl) (pure (n : Int))) Q E s := by
  obtain ⟨o, e1, e2, e3⟩ := hs
  unfold Builtin.Slice.sliceApplied
  unfold Builtin.Slice.sliceFields
  refine wpAny_bind (wpAny_bind (wpAny_field e1 e3 (x := .none) rfl ?_))
  refine wpAny_bind (wpAny_field e1 e3 (x := .none) rfl ?_)
  refine wpAny_bind (wpAny_field e1 e3 (x := .int (-1) t) rfl ?_)
  refine wpAny_pure ?_
  refine wpAny_bind (slicePart_int ?_)
  show wpAny _ _ (if ((-1 : Int) == 0) = true then _ else _) _ _ s
  rw [if_neg (show ¬ ((-1 : Int) == 0) = true by decide)]
  refine wpAny_bind (slicePart_none (wpAny_bind (slicePart_none (wpAny_bind (wpAny_pure ?_)))))
  show wpAny _ _ (match Builtin.Slice.sliceAdjust none none (-1) (n : Int) with | (lo, hi) => pure (lo, (-1 : Int), Builtin.Slice.slicePlaces lo hi (-1))) _ _ s
  rw [adjust_back]
  show wpAny _ _ (pure ((n : Int) - 1, (-1 : Int), Builtin.Slice.slicePlaces ((n : Int) - 1) (-1) (-1))) _ _ s
  rw [places_back]
  exact wpAny_pure h
theorem item_back {t sl : Addr} {its : Array Value} {k : Tok} {Q : Value → Shared → Prop} (ht : IsTup s.heap t its) (hs : s.heap.IsSliceOf sl .none .none (.int (-1) k)) (hz : its.size ≤ sizeLine)
    (h : Q (.ref s.heap.objs.size) { s with heap := s.heap.push { cls := .type "tuple", data := .seq its.toList.reverse.toArray } }) : wpAny (model prog w) A (getItem (.ref t) (.ref sl)) Q E s := by
  have hz2 : sizeOk (.seq its.toList.reverse.toArray) := by
    show its.toList.reverse.toArray.size ≤ sizeLine
    rw [List.size_toArray, List.length_reverse, Array.length_toList]
    exact hz
  have hT : s.TypeIs (.ref sl) "slice" := by obtain ⟨o, e1, e2, _⟩ := hs; exact ⟨o, e1, e2⟩
  unfold getItem
  refine wpAny_holding ?_
  refine wpAny_bind (wpAny_sequenceKey ht.typeIs (by decide) ?_)
  refine wpAny_bind (wpAny_callSpecial?_slot (name := Str.ofString "__getitem__") ht.typeIs slot_tuple_getitem (wpAny_call_entry slot_tuple_getitem ht.typeIs entry_tuple_getitem ?_ (args_tuple_getitem _ _)))
  show wpAny _ _ (Builtin.Tuple.tupleItemsOf (.ref t) >>= fun _ => _) _ _ s
  refine wpAny_bind (tupleItemsOf_ ht (wpAny_bind (wpAny_typeOf hT ?_)))
  rw [if_pos (show (Value.type "slice" == Value.type "slice") = true by decide)]
  refine wpAny_bind (applied_back hs ?_)
  show wpAny _ _ (if (((its.size : Int) - 1) == 0 && (-1 : Int) == 1 && its.size == its.size) = true then _ else _) _ _ s
  have no : ¬ (((its.size : Int) - 1) == 0 && (-1 : Int) == 1 && its.size == its.size) = true := by
    rw [show ((-1 : Int) == 1) = false from rfl, Bool.and_false, Bool.false_and]
    exact Bool.false_ne_true
  rw [if_neg no, back_pick]
  first
    | exact wpAny_bind (m := Builtin.Tuple.tupleExact _) (wpAny_newObj_type (wpAny_pure ⟨_, rfl, wpAny_pure h⟩) hz2)
    | exact wpAny_bind (m := Builtin.Tuple.tupleExact _) (wpAny_newObj_type (wpAny_bind (wpAny_pure (wpAny_pure ⟨_, rfl, wpAny_pure h⟩))) hz2)
    | exact wpAny_bind (wpAny_bind (m := Builtin.Tuple.tupleExact _) (wpAny_newObj_type (wpAny_pure (wpAny_pure ⟨_, rfl, wpAny_pure h⟩)) hz2))
    | exact wpAny_bind (wpAny_bind (m := Builtin.Tuple.tupleExact _) (wpAny_newObj_type (wpAny_pure ⟨_, rfl, wpAny_pure h⟩) hz2))
end
/-- t[::-1] -/
def tRevT (K : PySem.W.Frag) (te : TE) : TE := fun σ H Q => te σ H fun x H1 => ∃ a xs, x = .ref a ∧ SqT K H1 a xs ∧ ∀ (r : Addr) (H' : Hp), Same H1 H' → SqT K H' r xs.reverse → Q (.ref r) H'
theorem pe_revT {X : Cx} {e : Expr} {te : TE} {k : Nat} {p1 p2 p3 pos : Pos} (he : PE X e te) : PE X (.Subscript e (.Slice none none (some (.UnaryOp .USub (.Constant (.int 1) k p1) p2)) p3) pos) (tRevT X.K te) := by
  refine ⟨fun pins s σ H Q I h => Subscript_ (thn (he.run pins s σ H _ I h) fun v sA ⟨x, G, J, rx, a, xs, ex, hx, q⟩ => ?_)⟩
  subst ex
  cases rx
  have po : PO X (some (.UnaryOp .USub (.Constant (.int 1) k p1) p2)) (tPart (tUn (rU fun i => .int (-i)) (tC (.int 1)))) := po_some (pe_un un_neg pe_int)
  have nothing : ∀ {sN : Shared}, Inv X pins σ G sN → wpAny (model X.prog X.w) X.A (evalPart none X.env) (fun u s' => ∃ o H', Inv X pins σ H' s' ∧ IsPart u o ∧ o = none ∧ H' = G) X.xe sN := fun {sN} JN =>
    po_none.run pins sN σ G (fun o H' => o = none ∧ H' = G) JN ⟨rfl, rfl⟩
  refine wpAny_Slice (thn (nothing J) fun lo sB ⟨_, _, JB, plo, elo, eG⟩ => ?_)
  subst elo eG
  refine thn (nothing JB) fun up sC ⟨_, _, JC, pup, eup, eG⟩ => ?_
  subst eup eG
  refine thn (po.run pins sC σ _ (fun o H' => o = some (-1) ∧ H' = _) JC ⟨1, rfl, -1, rfl, rfl, rfl⟩) fun by_ sD ⟨_, _, JD, pby, eby, eG⟩ => ?_
  subst eby eG
  cases plo
  cases pup
  obtain ⟨tk, rfl⟩ : ∃ tk, by_ = .int (-1) tk := by
    cases pby with
    | int i t => exact ⟨t, rfl⟩
  have JS : Inv X pins σ _ { sD with heap := sD.heap.push { cls := .type "slice", data := .fields #[.none, .none, .int (-1) tk] } } := JD.kept (t' := sD.toks) fun b ob z => Heap.get?_push_of_some _ z
  obtain ⟨its, r, ht, hz⟩ := JS.tuple hx
  have hlen := r.length
  show wpAny (model X.prog X.w) X.A (subscriptTail e (.Slice none none (some (.UnaryOp .USub (.Constant (.int 1) k p1) p2)) p3) (.ref a) (.ref sD.heap.objs.size)) (EP X pins σ Q) X.xe _
  refine tail_any (ops := [.ref a, .ref sD.heap.objs.size]) ht.typeIs PyProof.Rows.slot_tuple_getitem.lookup ?_ (by with_unfolding_all rfl)
  refine item_back ht (Heap.IsSliceOf.new _ .none .none (.int (-1) tk)) (by rw [List.size_toArray, ← hlen]; exact hz) ?_
  refine ⟨.ref _, _, JS.laid (t' := sD.toks) (o := .tup xs.reverse) (fun b ob z => Heap.get?_push_of_some _ z) (Nat.le_refl _) ?_, rfl, q _ _ (same_upd (JS.hok.fresh (Nat.le_refl _))) (SqT.of upd_same)⟩
  exact ⟨by rw [List.length_reverse]; exact hz, _, r.reverse, IsTup.new _ _⟩
end Lp
namespace Lp
open PySem PySem.Spec PyProof.Rows L2
/-- the constants of pairs.py -/
structure Smalls (mg : Str → Option Value) : Prop where
  small : ∃ v, mg "SMALL" = some v ∧ RelV (.int 30) v
  far : ∃ v, mg "FAR" = some v ∧ RelV (.int 300) v
def SmallT (t : List Guest) : Prop := ∀ g ∈ t, g.1 ≤ 30 ∧ ∀ m, g.2 = some m → m ≤ 30
/-- the least dish below 300 at which they differ, or None -/
def PartAt (t u : List Guest) (v : V) : Prop :=
  (v = .non ∧ ∀ d : Nat, d < 300 → finL t 0 (d : Int) = finL u 0 (d : Int)) ∨
  ∃ d : Nat, d < 300 ∧ v = .int (d : Int) ∧ finL t 0 (d : Int) ≠ finL u 0 (d : Int) ∧ ∀ d' : Nat, d' < d → finL t 0 (d' : Int) = finL u 0 (d' : Int)
section
variable {P : Program} {w : World} {K : PySem.W.Frag} {mg : Str → Option Value} {base : Heap}
def spIsSmall (K : PySem.W.Frag) : Sp := fun vs H Q _ => ∃ (a : Addr) (t : List Guest), vs = [.ref a] ∧ TableAt K H a t ∧ SmallT t ∧ Q (.bl true) H
theorem sc_is_small : FnScope ["table", "courtesy", "enough"] ["table"] (defScope s_is_small) := ⟨rfl, rfl, rfl, by decide +kernel, rfl, by decide +kernel, by decide +kernel⟩
theorem ok_is_small {f : Addr} {fd : FuncData} (F : L2.Fun K "is_small" "is_small" s_is_small f fd) (S : Smalls mg) : FnOk P w K mg base L2.CX0 1 f fd ["table"] (spIsSmall K) := by
  refine F.ok sc_is_small (fun vs H Q E h => ?_) (fun cdv A outer s H vs Q E hr h => ?_)
  · obtain ⟨a, t, rfl, _⟩ := h
    rfl
  · obtain ⟨a, t, rfl, tb, sm, k⟩ := h
    obtain ⟨gv, h_SMALL, r_SMALL⟩ := S.small
    obtain ⟨xs, hx, hl, hg⟩ := tb.open
    refine ⟨_, (pss_cons (ps_for PassesOwn.never rfl (pi_tup (pv 0)) (pg_tup (by rfl) (pgs_cons (pg_name (i := 1) sc_is_small.nd rfl (Or.inl rfl)) (pgs_cons (pg_name (i := 2) sc_is_small.nd rfl (Or.inl rfl)) pgs_nil)))
      (pss_one (ps_if (PW.pt (pw_or (pt_cmpR op_gt (pv 1) (pe_glob (by rfl) h_SMALL r_SMALL) (nomark _)) (pw_or1 (PW.pt (pw_and (pt_cmpR op_notN (pv 2) pe_non (nomark _)) (pw_and1 (pt_cmpR op_gt (pv 2) (pe_glob (by rfl) h_SMALL r_SMALL) (nomark _))))))))
      (pss_one (ps_ret pe_bl))
      pss_nil)))
      (pss_one (ps_ret pe_bl))), ?_⟩
    refine ⟨_, rfl, a, rfl, ⟨_, hx⟩, ?_⟩
    refine for_tup (K := K) (a := a) (xs := xs) (fun j σ H' => ∃ (v1 v2 : Option V), σ = [some (.ref a), v1, v2] ∧ H' = H) ⟨none, none, rfl, rfl⟩ ?_ ?_ ?_
    · rintro j σ H' hj ⟨v1, v2, rfl, rfl⟩
      exact hx
    · rintro j x σ H' hj ⟨v1, v2, rfl, rfl⟩
      have jt : j < t.length := by rw [← hl]; exact (List.getElem?_eq_some_iff.mp hj).1
      have hgt := List.getElem?_eq_getElem jt
      obtain ⟨p, e1, e2⟩ := hg j _ hgt
      have sg := sm _ (List.mem_of_getElem? hgt)
      generalize t[j] = g at e2 sg
      rw [e1] at hj
      cases hj
      obtain ⟨c, o⟩ := g
      refine ⟨p, _, rfl, e2, rfl, _, _, rfl, _, _, rfl, rfl, ?_⟩
      refine ⟨_, rfl, _, _, rfl, rfl, _, rfl, ?_⟩
      rw [decide_eq_false (show ¬ 30 < c by have := sg.1; simp only at this; omega)]
      refine iteF ⟨_, rfl, rfl, _, rfl, ?_⟩
      cases o with
      | none => exact iteF (iteF ⟨_, _, rfl, rfl⟩)
      | some m =>
        refine iteT ⟨_, rfl, _, _, rfl, rfl, _, rfl, ?_⟩
        rw [decide_eq_false (show ¬ 30 < m by have := sg.2 m rfl; omega)]
        exact iteF ⟨_, _, rfl, rfl⟩
    · rintro σ H' ⟨v1, v2, rfl, rfl⟩
      exact k
def spParted (K : PySem.W.Frag) : Sp := fun vs H Q _ => ∃ (a b : Addr) (t u : List Guest), vs = [.ref a, .ref b] ∧ TableAt K H a t ∧ TableAt K H b u ∧ TabOk t ∧ TabOk u ∧ t.length = u.length ∧ SmallT t ∧ SmallT u ∧ ∀ (v : V) (H' : Hp), Same H H' → PartAt t u v → Q v H'
theorem sc_parted : FnScope ["one", "other", "dish"] ["one", "other"] (defScope s_parted) := ⟨rfl, rfl, rfl, by decide +kernel, rfl, by decide +kernel, by decide +kernel⟩
theorem ok_parted {f : Addr} {fd : FuncData} (F : L2.Fun K "parted" "parted" s_parted f fd) (B : Bls mg) (S : Smalls mg) (c_need_table : Cal P w K mg base 4 "need_table" (spNeedTable K)) (c_is_small : Cal P w K mg base 1 "is_small" (spIsSmall K)) (c_rested : Cal P w K mg base 4 "rested" (spRested K)) : FnOk P w K mg base L2.CX0 5 f fd ["one", "other"] (spParted K) := by
  refine F.ok sc_parted (fun vs H Q E h => ?_) (fun cdv A outer s H vs Q E hr h => ?_)
  · obtain ⟨a, b, t, u, rfl, _⟩ := h
    rfl
  · obtain ⟨a, b, t, u, rfl, tb, ub, ok, oku, tu, sm, smu, k⟩ := h
    obtain ⟨fv, h_FAR, r_FAR⟩ := S.far
    refine ⟨_, (pss_cons (ps_expr (pe_g c_need_table hr (pa_cons (pv 0) pa_nil)))
      (pss_cons (ps_expr (pe_g c_need_table hr (pa_cons (pv 1) pa_nil)))
      (pss_cons (ps_if (PW.pt (pw_or (pt_cmpR op_ne (pe_len B (pv 0)) (pe_len B (pv 1)) (nomark _)) (pw_or (pt_not (pt_val (pe_g c_is_small hr (pa_cons (pv 0) pa_nil)))) (pw_or1 (pt_not (pt_val (pe_g c_is_small hr (pa_cons (pv 1) pa_nil))))))))
      (pss_one ps_never)
      pss_nil)
      (pss_cons (ps_for PassesOwn.never rfl (pi_range1 (by rfl) B.range (pa_cons (pe_glob (by rfl) h_FAR r_FAR) pa_nil)) (pg_name (i := 2) sc_parted.nd rfl (Or.inl rfl))
      (pss_one (ps_if (pt_cmpR (op_neD hr.units) (pe_ix ix_tup (pe_g c_rested hr (pa_cons (pv 0) (pa_cons (pv 2) (pa_cons pe_int pa_nil)))) pe_int (fun _ _ => rfl)) (pe_ix ix_tup (pe_g c_rested hr (pa_cons (pv 1) (pa_cons (pv 2) (pa_cons pe_int pa_nil)))) pe_int (fun _ _ => rfl)) (nomark _))
      (pss_one (ps_ret (pv 2)))
      pss_nil)))
      (pss_one (ps_ret pe_non)))))), ?_⟩
    refine ⟨_, rfl, a, t, rfl, tb, ok, fun H1 s1 => ?_⟩
    refine ⟨_, rfl, b, u, rfl, ub.same s1, oku, fun H2 s2 => ?_⟩
    have s12 := Same.trans s1 s2
    obtain ⟨xs, hx, hl, _⟩ := (tb.same s12).open
    obtain ⟨ys, hy, hly, _⟩ := (ub.same s12).open
    refine ⟨_, rfl, a, xs, rfl, .inr hx, _, rfl, b, ys, rfl, .inr hy, rfl, _, rfl, ?_⟩
    rw [show ys.length = xs.length by omega]
    refine if_ne ?_
    refine ⟨_, rfl, a, t, rfl, tb.same s12, sm, _, rfl, iteF ?_⟩
    refine ⟨_, rfl, b, u, rfl, ub.same s12, smu, _, rfl, iteF ?_⟩
    refine ⟨_, rfl, by decide, by decide, ?_⟩
    refine for_range0 (fun j σ H' => ∃ (v2 : Option V), σ = [some (.ref a), some (.ref b), v2] ∧ Same H H' ∧ ∀ d : Nat, d < j → finL t 0 (d : Int) = finL u 0 (d : Int)) ⟨none, rfl, s12, fun d h => absurd h (Nat.not_lt_zero _)⟩ ?_ ?_
    · rintro j σ H3 hj ⟨v2, rfl, s3, all⟩
      have j300 : j < 300 := hj
      refine ⟨_, rfl, _, rfl, arg1 ⟨a, t, 0, j, rfl, tb.same s3, ok, ok.1, by omega, fun q l H4 s4 nl hq hl4 => ⟨q, _, _, _, rfl, rfl, SqT.of hq, rfl, ?_⟩⟩⟩
      have s34 := Same.trans s3 s4
      refine ⟨_, rfl, _, rfl, arg1 ⟨b, u, 0, j, rfl, ub.same s34, oku, oku.1, by omega, fun q' l' H5 s5 nl' hq' hl5 => ⟨q', _, _, _, rfl, rfl, SqT.of hq', rfl, ?_⟩⟩⟩
      have s35 := Same.trans s34 s5
      refine ne_ints (SqL.of (s5 _ _ hl4)) (SqL.of hl5) ⟨_, rfl, ?_⟩
      by_cases e : finL t 0 (j : Int) = finL u 0 (j : Int)
      · rw [decide_eq_true e]
        refine iteF ⟨_, rfl, s35, fun d hd => ?_⟩
        by_cases z : d = j
        · rw [z]; exact e
        · exact all d (by omega)
      · rw [decide_eq_false e]
        exact iteT ⟨_, rfl, k _ _ s35 (.inr ⟨j, j300, rfl, e, all⟩)⟩
    · rintro σ H3 ⟨v2, rfl, s3, all⟩
      exact k _ _ s3 (.inl ⟨rfl, all⟩)
end
end Lp
namespace D
section
variable {g g' : Gs} {n f : Nat} {d : Int}
/-- a run in which who wants one of g' wants one of g too is the run of g -/
theorem same_run (h1 : ∀ s i, i < n → wants g s i → wants g' s i) (hn : 0 < n) (h2 : ∀ k, wants g' (run g' n f d k) ((f + k) % n) → wants g (run g' n f d k) ((f + k) % n)) (k : Nat) : run g n f d k = run g' n f d k := by
  induction k with
  | zero => rfl
  | succ k ih =>
    rw [run_succ, run_succ, ih]
    by_cases w : wants g' (run g' n f d k) ((f + k) % n)
    · rw [vis_yes w, vis_yes (h2 k w)]
    · rw [vis_no w, vis_no fun z => w (h1 _ _ (Nat.mod_lt _ hn) z)]
end
end D
namespace Lp
open PySem PySem.Spec PyProof.Rows L2
theorem finL_iff {t u : List Guest} (h : t.length = u.length) (d : Int) : finL t 0 d = finL u 0 d ↔ ∀ i, i < t.length → (D.fin (D.gs t) t.length 0 d).had i = (D.fin (D.gs u) t.length 0 d).had i := by
  have e : finL u 0 d = D.hadL t.length (D.fin (D.gs u) t.length 0 d).had := by
    show D.hadL u.length (D.fin _ u.length 0 d).had = _
    rw [h]
  rw [e]
  exact ⟨fun z i hi => D.hadL_inj z hi, fun z => D.hadL_congr z⟩
theorem small_of {t : List Guest} (ok : TabOk t) (sm : SmallT t) : D.Small (D.gs t) t.length 30 30 := fun i hi => by
  have hm := List.mem_of_getElem? (get_of hi)
  refine ⟨(ok.2.2 _ hm).1, (sm _ hm).1, fun m e => ⟨((ok.2.2 _ hm).2.2 m e).1, (sm _ hm).2 m e⟩⟩
/-- who agree up to the bound agree at every dish -/
theorem agreeT {t u : List Guest} (ok : TabOk t) (oku : TabOk u) (sm : SmallT t) (smu : SmallT u) (h : t.length = u.length) (hh : ∀ d : Nat, d ≤ 30 + 31 * t.length → finL t 0 (d : Int) = finL u 0 (d : Int)) (d : Nat) : finL t 0 (d : Int) = finL u 0 (d : Int) := by
  have s2 := small_of oku smu
  rw [← h] at s2
  refine (finL_iff h d).mpr (D.agree (C := 30) (E := 30) ok.1 (small_of ok sm) s2 (fun d' hd i hi => (finL_iff h d').mp (hh d' (by omega)) i hi) d)
theorem PartAt.swap {t u : List Guest} {v : V} (h : PartAt t u v) : PartAt u t v := by
  rcases h with ⟨a, b⟩ | ⟨d, a, b, c, e⟩
  · exact .inl ⟨a, fun d hd => (b d hd).symm⟩
  · exact .inr ⟨d, a, b, fun z => c z.symm, fun d' hd => (e d' hd).symm⟩
/-- what is found by hand, down from N -/
def DueAt (t u : List Guest) (N i : Nat) (v : V) : Prop :=
  (v = .non ∧ ∀ d : Nat, d ≤ N → N < d + i → finL t 0 (d : Int) = finL u 0 (d : Int)) ∨
  ∃ d : Nat, d ≤ N ∧ N < d + i ∧ v = .int (d : Int) ∧ finL t 0 (d : Int) ≠ finL u 0 (d : Int) ∧ ∀ d' : Nat, d' < d → N < d' + i → finL t 0 (d' : Int) = finL u 0 (d' : Int)
theorem due_part {t u : List Guest} {v v' : V} (ok : TabOk t) (oku : TabOk u) (sm : SmallT t) (smu : SmallT u) (h : t.length = u.length) (n4 : t.length ≤ 4) (h1 : PartAt t u v) (h2 : DueAt t u 165 166 v') : v = v' := by
  rcases h1 with ⟨rfl, b⟩ | ⟨d, a, rfl, c, e⟩
  · rcases h2 with ⟨rfl, _⟩ | ⟨d', a', _, rfl, c', _⟩
    · rfl
    · exact absurd (b d' (by omega)) c'
  · rcases h2 with ⟨rfl, b'⟩ | ⟨d', a', _, rfl, c', e'⟩
    · exact absurd (agreeT ok oku sm smu h (fun x hx => b' x (by omega) (by omega)) d) c
    · have : d = d' := by
        rcases Nat.lt_trichotomy d d' with z | z | z
        · exact absurd (e' d z (by omega)) c
        · exact z
        · exact absurd (e d' z) c'
      rw [this]
theorem part_at {t u : List Guest} {v : V} (N : Nat) (hN : N < 300) (h : PartAt t u v) (h1 : ∀ d : Nat, d < N → finL t 0 (d : Int) = finL u 0 (d : Int)) (h2 : finL t 0 (N : Int) ≠ finL u 0 (N : Int)) : v = .int (N : Int) := by
  rcases h with ⟨_, b⟩ | ⟨d, _, rfl, c, e⟩
  · exact absurd (b N hN) h2
  · have : d = N := by
      rcases Nat.lt_trichotomy d N with z | z | z
      · exact absurd (h1 d z) c
      · exact z
      · exact absurd (e N z) h2
    rw [this]
theorem part_self {t : List Guest} {v : V} (h : PartAt t t v) : v = .non := by
  rcases h with ⟨a, _⟩ | ⟨_, _, _, c, _⟩
  · exact a
  · exact absurd rfl c
/-- (30, 30) beside (30, None) -/
theorem part61 {v : V} (h : PartAt [(30, some 30)] [(30, none)] v) : v = .int 61 := by
  have g0 : D.gs [(30, some 30)] 0 = (30, some 30) := rfl
  have u0 : D.gs [(30, none)] 0 = (30, none) := rfl
  have tot : ∀ (h : Nat → Int), D.total 1 h = h 0 := fun h => by show (0 : Int) + h 0 = h 0; omega
  refine part_at 61 (by decide) h (fun d hd => ?_) (fun e => ?_)
  · refine (finL_iff (t := [(30, some 30)]) (u := [(30, none)]) rfl d).mpr fun i _ => ?_
    have := D.same_run (g := D.gs [(30, some 30)]) (g' := D.gs [(30, none)]) (n := 1) (f := 0) (d := (d : Int)) (fun s i hi w => by
      have e : i = 0 := by omega
      subst e
      unfold D.wants at w ⊢
      rw [g0] at w
      rw [u0]
      exact ⟨w.1, fun m e => by cases e⟩) (by decide) (fun k w => by
      rw [Nat.mod_one] at w ⊢
      have rs := D.run_sum (g := D.gs [(30, none)]) (n := 1) (f := 0) (d := (d : Int)) (by decide) k
      rw [tot] at rs
      unfold D.wants at w ⊢
      rw [u0] at w
      rw [g0]
      have w1 := w.1
      simp only at w1
      exact ⟨w1, fun m e => by cases e; omega⟩) (D.enoughVisits 1 (d : Int))
    exact congrFun (congrArg D.S.had this) i
  · have e2 := (finL_iff (t := [(30, some 30)]) (u := [(30, none)]) rfl ((61 : Nat) : Int)).mp e 0 (by decide)
    have h1 : (D.fin (D.gs [(30, some 30)]) 1 0 ((61 : Nat) : Int)).had 0 ≤ 30 := D.had_le' (g := D.gs [(30, some 30)]) (i := 0) (m := 30) rfl (by decide) _
    have q := D.fin_quiet (g := D.gs [(30, none)]) (n := 1) (f := 0) (d := ((61 : Nat) : Int)) (by decide) (fun i hi => by
      have e : i = 0 := by omega
      rw [e, u0]
      decide) (by decide) 0 (by decide)
    have rs := D.run_sum (g := D.gs [(30, none)]) (n := 1) (f := 0) (d := ((61 : Nat) : Int)) (by decide) (D.enoughVisits 1 ((61 : Nat) : Int))
    rw [tot] at rs
    have rs' : (D.fin (D.gs [(30, none)]) 1 0 ((61 : Nat) : Int)).had 0 + (D.fin (D.gs [(30, none)]) 1 0 ((61 : Nat) : Int)).left = ((61 : Nat) : Int) := rs
    have nq : ¬ (30 : Int) < (D.fin (D.gs [(30, none)]) 1 0 ((61 : Nat) : Int)).left := fun z => q (by
      unfold D.wants
      rw [u0]
      exact ⟨z, fun m e => by cases e⟩)
    have e3 : (D.fin (D.gs [(30, some 30)]) 1 0 ((61 : Nat) : Int)).had 0 = (D.fin (D.gs [(30, none)]) 1 0 ((61 : Nat) : Int)).had 0 := e2
    omega
theorem gs_rep {n i : Nat} {g : Guest} (hi : i < n) : D.gs (List.replicate n g) i = g := by
  show (List.replicate n g).getD i (0, none) = g
  rw [List.getD_eq_getElem?_getD, List.getElem?_replicate, if_pos hi]
  rfl
/-- eight (0, 30) beside eight (0, None) -/
theorem part241 {v : V} (h : PartAt (List.replicate 8 (0, some 30)) (List.replicate 8 (0, none)) v) : v = .int 241 := by
  refine part_at 241 (by decide) h (fun d hd => ?_) (fun e => ?_)
  · refine (finL_iff (t := List.replicate 8 (0, some 30)) (u := List.replicate 8 (0, none)) rfl d).mpr fun i _ => ?_
    have inv : ∀ k, (((D.run (D.gs (List.replicate 8 (0, none))) 8 0 (d : Int) k).left = (d : Int) - k ∧ (k : Int) ≤ d) ∨ (D.run (D.gs (List.replicate 8 (0, none))) 8 0 (d : Int) k).left = 0) ∧
        ∀ i, i < 8 → 8 * (D.run (D.gs (List.replicate 8 (0, none))) 8 0 (d : Int) k).had i ≤ (k : Int) + 7 - i := fun k => by
      induction k with
      | zero => exact ⟨.inl ⟨by show (d : Int) = d - ((0 : Nat) : Int); omega, by omega⟩, fun i hi => by show 8 * (0 : Int) ≤ ((0 : Nat) : Int) + 7 - i; omega⟩
      | succ k ih =>
        obtain ⟨h1, h2⟩ := ih
        rw [D.run_succ, Nat.zero_add]
        have hs : k % 8 < 8 := Nat.mod_lt _ (by decide)
        by_cases w : D.wants (D.gs (List.replicate 8 (0, none))) (D.run (D.gs (List.replicate 8 (0, none))) 8 0 (d : Int) k) (k % 8)
        · have w1 := w.1
          rw [gs_rep hs] at w1
          simp only at w1
          rw [D.vis_yes w]
          refine ⟨.inl ⟨?_, ?_⟩, fun i hi => ?_⟩
          · show _ - 1 = _
            rcases h1 with ⟨a, _⟩ | a
            · rw [a]; omega
            · omega
          · rcases h1 with ⟨a, b⟩ | a
            · rw [a] at w1; omega
            · omega
          · show 8 * D.bump _ _ i ≤ _
            have := h2 i hi
            by_cases z : i = k % 8
            · rw [z, D.bump_self]
              rw [z] at this
              omega
            · rw [D.bump_ne _ z]
              omega
        · rw [D.vis_no w]
          have l0 : (D.run (D.gs (List.replicate 8 (0, none))) 8 0 (d : Int) k).left = 0 := by
            rcases h1 with ⟨a, b⟩ | a
            · apply Classical.byContradiction
              intro c
              refine w ?_
              unfold D.wants
              rw [gs_rep hs]
              exact ⟨by show (0 : Int) < _; omega, fun m e => by cases e⟩
            · exact a
          exact ⟨.inr l0, fun i hi => by have := h2 i hi; omega⟩
    have := D.same_run (g := D.gs (List.replicate 8 (0, some 30))) (g' := D.gs (List.replicate 8 (0, none))) (n := 8) (f := 0) (d := (d : Int)) (fun s i hi w => by
      unfold D.wants at w ⊢
      rw [gs_rep hi] at w ⊢
      exact ⟨w.1, fun m e => by cases e⟩) (by decide) (fun k w => by
      rw [Nat.zero_add] at w ⊢
      have hs : k % 8 < 8 := Nat.mod_lt _ (by decide)
      obtain ⟨h1, h2⟩ := inv k
      have h3 := h2 _ hs
      unfold D.wants at w ⊢
      rw [gs_rep hs] at w ⊢
      have w1 := w.1
      simp only at w1
      refine ⟨w1, fun m e => ?_⟩
      cases e
      rcases h1 with ⟨a, b⟩ | a
      · rw [a] at w1
        omega
      · omega) (D.enoughVisits 8 (d : Int))
    exact congrFun (congrArg D.S.had this) i
  · have oka : TabOk (List.replicate 8 ((0, some 30) : Guest)) := ⟨by decide, by decide, fun g hg => by
      rw [List.eq_of_mem_replicate hg]
      exact ⟨by decide, by decide, fun m hm => by cases hm; exact ⟨by decide, by decide⟩⟩⟩
    have okb : TabOk (List.replicate 8 ((0, none) : Guest)) := ⟨by decide, by decide, fun g hg => by
      rw [List.eq_of_mem_replicate hg]
      exact ⟨by decide, by decide, fun m hm => by cases hm⟩⟩
    have f1 := fin_sum oka 0 ((241 : Nat) : Int)
    have f2 := fin_sum okb 0 ((241 : Nat) : Int)
    rw [e] at f1
    have l1 : D.total 8 (Fin (List.replicate 8 (0, some 30)) 0 ((241 : Nat) : Int)).had ≤ 8 * 30 := by
      have tc : D.total 8 (fun _ => (30 : Int)) = 8 * 30 := D.total_const 8 30
      rw [← tc]
      exact D.total_le fun i hi => D.had_le' (g := D.gs (List.replicate 8 (0, some 30))) (m := 30) (by rw [gs_rep hi]) (by decide) _
    have l2 := D.run_sum (g := D.gs (List.replicate 8 ((0, some 30) : Guest))) (n := 8) (f := 0) (d := ((241 : Nat) : Int)) (by decide) (D.enoughVisits 8 ((241 : Nat) : Int))
    have l3 : D.total 8 (Fin (List.replicate 8 (0, some 30)) 0 ((241 : Nat) : Int)).had + (Fin (List.replicate 8 (0, some 30)) 0 ((241 : Nat) : Int)).left = ((241 : Nat) : Int) := l2
    have q := D.fin_quiet (g := D.gs (List.replicate 8 ((0, none) : Guest))) (n := 8) (f := 0) (d := ((241 : Nat) : Int)) (by decide) (fun i hi => by rw [gs_rep hi]; decide) (by decide) 0 (by decide)
    have nq : ¬ (0 : Int) < (Fin (List.replicate 8 (0, none)) 0 ((241 : Nat) : Int)).left := fun z => q (by
      unfold D.wants
      rw [gs_rep (by decide)]
      exact ⟨z, fun m e => by cases e⟩)
    omega
end Lp
namespace Lp
open PySem PySem.Spec PyProof.Rows L2
def okG (g : Guest) : Prop := (0 ≤ g.1 ∧ g.1 ≤ 30) ∧ ∀ m, g.2 = some m → 0 ≤ m ∧ m ≤ 30
theorem okG_of {t : List Guest} (ok : TabOk t) (sm : SmallT t) {g : Guest} (h : g ∈ t) : okG g := ⟨⟨(ok.2.2 g h).1, (sm g h).1⟩, fun m e => ⟨((ok.2.2 g h).2.2 m e).1, (sm g h).2 m e⟩⟩
theorem okG_tab {u : List Guest} (h : ∀ g ∈ u, okG g) (h1 : 1 ≤ u.length) (h8 : u.length ≤ 8) : TabOk u ∧ SmallT u :=
  ⟨⟨h1, h8, fun g hg => ⟨(h g hg).1.1, by have := (h g hg).1.2; omega, fun m e => ⟨((h g hg).2 m e).1, by have := ((h g hg).2 m e).2; omega⟩⟩⟩, fun g hg => ⟨(h g hg).1.2, fun m e => ((h g hg).2 m e).2⟩⟩
section
variable {P : Program} {w : World} {K : PySem.W.Frag} {mg : Str → Option Value} {base : Heap}
theorem cut_from1 {H : Hp} {Q : VK} {a : Addr} {xs : List V} (h : SqT K H a xs) (q : ∀ (r : Addr) (H' : Hp), Same H H' → SqT K H' r (xs.drop 1) → Q (.ref r) H') : rSlA K (.ref a) (some 1) none H Q := by
  refine ⟨a, xs, rfl, h, fun w => q a H (Same.refl _) ?_, fun _ u hu => q u _ (same_upd hu) (by rw [← cut_drop]; exact SqT.of upd_same)⟩
  have w1 : HT.sIx xs.length 0 (some ((1 : Nat) : Int)) = 0 := w.1
  rw [HT.sIx_nat] at w1
  have e : xs = [] := List.eq_nil_of_length_eq_zero (by omega)
  rw [e, List.drop_nil, ← e]
  exact h
theorem cut_to1 {H : Hp} {Q : VK} {a : Addr} {xs : List V} (h : SqT K H a xs) (q : ∀ (r : Addr) (H' : Hp), Same H H' → SqT K H' r (xs.take 1) → Q (.ref r) H') : rSlA K (.ref a) none (some 1) H Q := by
  refine ⟨a, xs, rfl, h, fun w => q a H (Same.refl _) ?_, fun _ u hu => q u _ (same_upd hu) (by rw [← cut_take]; exact SqT.of upd_same)⟩
  have w1 : HT.sIx xs.length xs.length (some ((1 : Nat) : Int)) = xs.length := w.2
  rw [HT.sIx_nat] at w1
  rw [List.take_of_length_le (by omega)]
  exact h
def spNear (K : PySem.W.Frag) : Sp := fun vs H Q _ => ∃ (b a : Addr) (t : List Guest), vs = [.ref b, .ref a] ∧ BagAt K H b ∧ TableAt K H a t ∧ TabOk t ∧ SmallT t ∧
  ∀ (a' : Addr) (u : List Guest) (H' : Hp), Evo H H' → TableAt K H' a' u → u.length = t.length → TabOk u → SmallT u → Q (.ref a') H'
theorem sc_law_near : FnScope ["bag", "table", "seat", "courtesy", "enough", "more"] ["bag", "table"] (defScope s_law_near) := ⟨rfl, rfl, rfl, by decide +kernel, rfl, by decide +kernel, by decide +kernel⟩
theorem ok_lnear {f : Addr} {fd : FuncData} (F : L2.Fun K "_law_near" "_law_near" s_law_near f fd) (B : Bls mg) (c_law_take : Cal P w K mg base 1 "_law_take" (spTake K)) (c_law_with : Cal P w K mg base 1 "_law_with" (spWith K)) : FnOk P w K mg base L2.CX0 2 f fd ["bag", "table"] (spNear K) := by
  refine F.ok sc_law_near (fun vs H Q E h => ?_) (fun cdv A outer s H vs Q E hr h => ?_)
  · obtain ⟨b, a, t, rfl, _⟩ := h
    rfl
  · obtain ⟨b, a, t, rfl, Ba, tb, ok, sm, k⟩ := h
    have n8 : t.length ≤ 8 := ok.2.1
    obtain ⟨xs, hx, hl, hg⟩ := tb.open
    have x0 : 0 < xs.length := by rw [hl]; exact ok.1
    refine ⟨_, (pss_cons (ps_set (i := 2) sc_law_near.nd rfl (Or.inl rfl) (pe_g c_law_take hr (pa_cons (pv 0) (pa_cons (pe_len B (pv 1)) pa_nil))))
      (pss_cons (ps_asg (pe_ix ix_tup (pv 1) (pv 2) (fun _ _ => rfl)) (pg_tup (by rfl) (pgs_cons (pg_name (i := 3) sc_law_near.nd rfl (Or.inl rfl)) (pgs_cons (pg_name (i := 4) sc_law_near.nd rfl (Or.inl rfl)) pgs_nil))))
      (pss_cons (ps_set (i := 5) sc_law_near.nd rfl (Or.inl rfl) (pe_lst (pa_cons (pe_tup (pa_cons (pv 3) (pa_cons (pv 4) pa_nil))) (pa_cons (pe_tup (pa_cons (pe_callB (call_min2 rfl) (by rfl) B.min (by decide +kernel) (pa_cons pe_int (pa_cons (pe_op op_add (pv 3) pe_int) pa_nil))) (pa_cons (pv 4) pa_nil))) (pa_cons (pe_tup (pa_cons (pv 3) (pa_cons pe_non pa_nil))) pa_nil)))))
      (pss_cons (ps_set (i := 5) sc_law_near.nd rfl (Or.inl rfl) (pe_op op_cat (pv 5) (pe_lst (pa_cons (pe_tup (pa_cons (pv 3) (pa_cons pe_int pa_nil))) (pa_cons (pe_tup (pa_cons (pe_g c_law_take hr (pa_cons (pv 0) (pa_cons pe_int pa_nil))) (pa_cons (pv 4) pa_nil))) pa_nil)))))
      (pss_one (ps_ret (pe_ix ix_list (pe_lst (pa_cons (pe_g c_law_with hr (pa_cons (pv 1) (pa_cons (pv 2) (pa_cons (pe_ix ix_list (pv 5) (pe_g c_law_take hr (pa_cons (pv 0) (pa_cons pe_int pa_nil))) (fun _ _ => rfl)) pa_nil)))) (pa_cons (pe_revT (pv 1)) (pa_cons (pe_op op_catA (pe_slice sl_tupA (pv 1) (po_some pe_int) po_none) (pe_slice sl_tupA (pv 1) po_none (po_some pe_int))) pa_nil)))) (pe_g c_law_take hr (pa_cons (pv 0) (pa_cons pe_int pa_nil))) (fun _ _ => rfl)))))))), ?_⟩
    -- seat
    refine ⟨_, rfl, _, rfl, a, xs, rfl, .inr hx, b, _, rfl, Ba, by omega, fun si H1 e1 p0 p1 => ?_⟩
    obtain ⟨p, rfl⟩ : ∃ p : Nat, si = (p : Int) := ⟨si.toNat, by omega⟩
    have hp : p < t.length := by omega
    obtain ⟨g, hgp⟩ : ∃ g, t[p]? = some g := ⟨_, List.getElem?_eq_getElem hp⟩
    obtain ⟨pg, ep, hpg⟩ := hg p g hgp
    have og := okG_of ok sm (List.mem_of_getElem? hgp)
    obtain ⟨c, o⟩ := g
    have hpg' : SqT K H1 pg [.int c, optV o] := e1.sqt hpg
    refine ⟨_, rfl, _, rfl, a, xs, _, _, rfl, rfl, e1.sqt hx, atI_nat ep, pg, _, rfl, hpg', rfl, _, _, rfl, _, _, rfl, rfl, ?_⟩
    have Ba1 := Ba.evo e1
    -- more
    refine ⟨_, rfl, _, rfl, by show 2 ≤ sizeLine; decide, fun u1 hu1 => ?_⟩
    have q1 := same_upd (o := .tup [.int c, optV o]) hu1
    have g1 : (upd H1 u1 (.tup [.int c, optV o])) u1 = some (.tup [.int c, optV o]) := upd_same
    refine ⟨_, rfl, _, _, rfl, rfl, _, _, rfl, ?_⟩
    refine ⟨_, rfl, by show 2 ≤ sizeLine; decide, fun u2 hu2 => ?_⟩
    have q2 := same_upd (o := .tup [.int (if c + 1 < 30 then c + 1 else 30), optV o]) hu2
    refine ⟨_, rfl, by show 2 ≤ sizeLine; decide, fun u3 hu3 => ?_⟩
    have q3 := same_upd (o := .tup [.int c, .non]) hu3
    refine ⟨by show 3 ≤ sizeLine; decide, fun m1 hm1 => ?_⟩
    have q4 := same_upd (o := .lst [.ref u1, .ref u2, .ref u3]) hm1
    have f1 := q4 _ _ (q3 _ _ (q2 _ _ g1))
    have f2 := q4 _ _ (q3 _ _ (upd_same (a := u2) (o := .tup [.int (if c + 1 < 30 then c + 1 else 30), optV o])))
    have f3 := q4 _ _ (upd_same (a := u3) (o := .tup [.int c, .non]))
    have fm := upd_same (H := upd (upd (upd H1 u1 (.tup [.int c, optV o])) u2 (.tup [.int (if c + 1 < 30 then c + 1 else 30), optV o])) u3 (.tup [.int c, .non])) (a := m1) (o := .lst [.ref u1, .ref u2, .ref u3])
    have e5 := Same.evo (Same.trans (Same.trans q1 q2) (Same.trans q3 q4))
    revert f1 f2 f3 fm e5
    generalize upd (upd (upd (upd H1 u1 (.tup [.int c, optV o])) u2 (.tup [.int (if c + 1 < 30 then c + 1 else 30), optV o])) u3 (.tup [.int c, .non])) m1 (.lst [.ref u1, .ref u2, .ref u3]) = H5
    intro f1 f2 f3 fm e5
    have e15 : Evo H H5 := e1.trans e5
    -- two more
    refine ⟨_, rfl, _, rfl, by show 2 ≤ sizeLine; decide, fun u4 hu4 => ?_⟩
    have q6 := same_upd (o := .tup [.int c, .int 30]) hu4
    have g4 : (upd H5 u4 (.tup [.int c, .int 30])) u4 = some (.tup [.int c, .int 30]) := upd_same
    generalize upd H5 u4 (.tup [.int c, .int 30]) = H6 at q6 g4 ⊢
    have e6 := e15.trans (Same.evo q6)
    refine ⟨_, rfl, b, 31, rfl, Ba.evo e6, by decide, fun z H7 e7 z0 z1 => ?_⟩
    refine ⟨_, rfl, by show 2 ≤ sizeLine; decide, fun u5 hu5 => ?_⟩
    have q8 := same_upd (o := .tup [.int z, optV o]) hu5
    have g5 : (upd H7 u5 (.tup [.int z, optV o])) u5 = some (.tup [.int z, optV o]) := upd_same
    generalize upd H7 u5 (.tup [.int z, optV o]) = H8 at q8 g5 ⊢
    refine ⟨by show 2 ≤ sizeLine; decide, fun m2 hm2 => ?_⟩
    have q9 := same_upd (o := .lst [.ref u4, .ref u5]) hm2
    have fm : H5 m1 = some (.lst (([u1, u2, u3] : List Addr).map V.ref)) := fm
    have fm8 := (Same.evo q8).refsH (e7.refsH ((Same.evo q6).refsH fm))
    refine cat_list (q9 _ _ fm8) upd_same (by show 3 + 2 ≤ 1000; decide) fun m3 H10 q10 fm3 => ?_
    have s810 := Same.trans q9 q10
    have e58 : Evo H5 H8 := ((Same.evo q6).trans e7).trans (Same.evo q8)
    have e510 := e58.trans (Same.evo s810)
    have e10 := e15.trans e510
    have all5 : ∀ x ∈ (([u1, u2, u3, u4, u5] : List Addr).map V.ref), ∃ (u : Addr) (g' : Guest), x = .ref u ∧ SqT K H10 u [.int g'.1, optV g'.2] ∧ okG g' := fun x hx => by
      have ogc := og.1
      have ogo := og.2
      simp only at ogc ogo
      simp only [List.map_cons, List.map_nil, List.mem_cons, List.not_mem_nil, or_false] at hx
      rcases hx with h | h | h | h | h
      · exact ⟨u1, (c, o), h, e510.sqt (SqT.of f1), og⟩
      · refine ⟨u2, (if c + 1 < 30 then c + 1 else 30, o), h, e510.sqt (SqT.of f2), ⟨?_, ogo⟩⟩
        show 0 ≤ (if c + 1 < 30 then c + 1 else 30) ∧ (if c + 1 < 30 then c + 1 else 30) ≤ 30
        split <;> omega
      · exact ⟨u3, (c, none), h, e510.sqt (SqT.of f3), ⟨ogc, fun m hm => by cases hm⟩⟩
      · exact ⟨u4, (c, some 30), h, Same.sqt s810 (Same.sqt q8 (e7.sqt (SqT.of g4))), ⟨ogc, fun m hm => by cases hm; exact ⟨by decide, by decide⟩⟩⟩
      · exact ⟨u5, (z, o), h, Same.sqt s810 (SqT.of g5), ⟨⟨z0, by show z ≤ 30; omega⟩, ogo⟩⟩
    have fm5 : H10 m3 = some (.lst (([u1, u2, u3, u4, u5] : List Addr).map V.ref)) := fm3
    have tb10 := tb.evo e10
    have hx10 := e10.sqt hx
    -- the first
    refine ⟨_, rfl, _, rfl, _, rfl, _, rfl, b, 5, rfl, Ba.evo e10, by decide, fun y H11 e11 y0 y1 => ?_⟩
    have fm11 := e11.refsH fm5
    have yk : y.toNat < (([u1, u2, u3, u4, u5] : List Addr).map V.ref).length := by show y.toNat < 5; omega
    obtain ⟨uu, gu, eu, hu, ou⟩ := all5 _ (List.getElem_mem yk)
    refine ⟨m3, _, _, _, rfl, rfl, SqL.of fm11, at_of (j := y.toNat) (by omega) ((List.getElem?_eq_getElem yk).trans (congrArg some eu)), ?_⟩
    have tb11 := tb10.evo e11
    refine ⟨a, t, p, uu, gu, rfl, tb11, n8, hp, e11.sqt hu, fun a1 H12 s12 tb12 => ?_⟩
    have hx12 := Same.sqt s12 (e11.sqt hx10)
    -- the second
    refine ⟨_, rfl, a, xs, rfl, hx12, fun a2 H13 s13 h13 => ?_⟩
    have hx13 := Same.sqt s13 hx12
    -- the third
    refine ⟨_, rfl, _, rfl, np_mk (cut_from1 hx13 fun r1 H14 s14 h14 => ?_)⟩
    refine ⟨_, rfl, _, rfl, cut_to1 (Same.sqt s14 hx13) fun r2 H15 s15 h15 => ?_⟩
    refine cat_any (Same.sqt s15 h14) h15 (by rw [List.length_drop, List.length_take]; omega) fun a3 H16 s16 h16 => ?_
    refine ⟨by show 3 ≤ sizeLine; decide, fun l3 hl3 => ?_⟩
    have s17 := same_upd (o := .lst [.ref a1, .ref a2, .ref a3]) hl3
    have g17 : (upd H16 l3 (.lst [.ref a1, .ref a2, .ref a3])) l3 = some (.lst [.ref a1, .ref a2, .ref a3]) := upd_same
    have s1217 := Same.trans (Same.trans s13 s14) (Same.trans (Same.trans s15 s16) s17)
    have s1317 := Same.trans (Same.trans s14 s15) (Same.trans s16 s17)
    have e17 : Evo H (upd H16 l3 (.lst [.ref a1, .ref a2, .ref a3])) := e10.trans (e11.trans (Same.evo (Same.trans s12 s1217)))
    have perm : ∀ (a' : Addr) (ys : List V) (u : List Guest) (φ : Nat → Nat), SqT K (upd H16 l3 (.lst [.ref a1, .ref a2, .ref a3])) a' ys → ys.length = t.length → u.length = t.length → (∀ i, i < t.length → φ i < t.length ∧ ys[i]? = xs[φ i]? ∧ u[i]? = t[φ i]?) →
        TableAt K (upd H16 l3 (.lst [.ref a1, .ref a2, .ref a3])) a' u ∧ ∀ g ∈ u, okG g := fun a' ys u φ h1 h2 h3 h4 => by
      refine ⟨.ofRefs h1 (by omega) fun i g' hi => ?_, fun g' hg' => ?_⟩
      · have il : i < t.length := by rw [← h3]; exact (List.getElem?_eq_some_iff.mp hi).1
        obtain ⟨b1, b2, b3⟩ := h4 i il
        rw [b3] at hi
        obtain ⟨q', r1, r2⟩ := hg _ g' hi
        exact ⟨q', by rw [b2]; exact r1, e17.sqt r2⟩
      · obtain ⟨i, hi⟩ := List.mem_iff_getElem?.mp hg'
        have il : i < t.length := by rw [← h3]; exact (List.getElem?_eq_some_iff.mp hi).1
        rw [(h4 i il).2.2] at hi
        exact okG_of ok sm (List.mem_of_getElem? hi)
    have all3 : ∀ x ∈ (([a1, a2, a3] : List Addr).map V.ref), ∃ (a' : Addr) (u : List Guest), x = .ref a' ∧ TableAt K (upd H16 l3 (.lst [.ref a1, .ref a2, .ref a3])) a' u ∧ u.length = t.length ∧ ∀ g ∈ u, okG g := fun x hx' => by
      simp only [List.map_cons, List.map_nil, List.mem_cons, List.not_mem_nil, or_false] at hx'
      rcases hx' with h | h | h
      · refine ⟨a1, t.set p gu, h, tb12.same s1217, List.length_set, fun g' hg' => ?_⟩
        rcases List.mem_or_eq_of_mem_set hg' with z | z
        · exact okG_of ok sm z
        · rw [z]; exact ou
      · obtain ⟨z1, z2⟩ := perm a2 xs.reverse t.reverse (fun i => t.length - 1 - i) (Same.sqt s1317 h13) (by rw [List.length_reverse, hl]) List.length_reverse fun i hi => ⟨by omega, by rw [List.getElem?_reverse (by omega), hl], by rw [List.getElem?_reverse hi]⟩
        exact ⟨a2, t.reverse, h, z1, List.length_reverse, z2⟩
      · have lt1 : (t.drop 1 ++ t.take 1).length = t.length := by rw [List.length_append, List.length_drop, List.length_take]; omega
        obtain ⟨z1, z2⟩ := perm a3 (xs.drop 1 ++ xs.take 1) (t.drop 1 ++ t.take 1) (fun i => if i + 1 < t.length then i + 1 else 0) (Same.sqt s17 h16) (by rw [List.length_append, List.length_drop, List.length_take]; omega) lt1 fun i hi => by
          have get1 : ∀ {α : Type} (l : List α), l.length = t.length → (l.drop 1 ++ l.take 1)[i]? = l[if i + 1 < t.length then i + 1 else 0]? := fun l hl' => by
            by_cases c : i + 1 < t.length
            · rw [if_pos c, List.getElem?_append_left (by rw [List.length_drop]; omega), List.getElem?_drop, Nat.add_comm]
            · rw [if_neg c, List.getElem?_append_right (by rw [List.length_drop]; omega), List.length_drop, show i - (l.length - 1) = 0 by omega, List.getElem?_take_of_lt (by omega)]
          exact ⟨by show (if i + 1 < t.length then i + 1 else 0) < t.length; split <;> omega, get1 xs hl, get1 t rfl⟩
        exact ⟨a3, t.drop 1 ++ t.take 1, h, z1, lt1, z2⟩
    revert s17 g17 s1217 s1317 e17 perm all3
    generalize upd H16 l3 (.lst [.ref a1, .ref a2, .ref a3]) = H17
    intro s17 g17 s1217 s1317 e17 perm all3
    refine ⟨_, rfl, b, 3, rfl, Ba.evo e17, by decide, fun y3 H18 e18 y30 y31 => ?_⟩
    have yk3 : y3.toNat < (([a1, a2, a3] : List Addr).map V.ref).length := by show y3.toNat < 3; omega
    obtain ⟨a', u, ea, ta, ul, uo⟩ := all3 _ (List.getElem_mem yk3)
    refine ⟨l3, _, _, _, rfl, rfl, SqL.of (e18.refsH (ps := [a1, a2, a3]) g17), at_of (j := y3.toNat) (by omega) ((List.getElem?_eq_getElem yk3).trans (congrArg some ea)), ?_⟩
    obtain ⟨w1, w2⟩ := okG_tab uo (by rw [ul]; exact ok.1) (by rw [ul]; exact n8)
    exact k a' u H18 (e17.trans e18) (ta.evo e18) ul w1 w2
end
end Lp
namespace Lp
open PySem PySem.Spec PyProof.Rows L2
theorem for_down {hi n : Nat} {g : TG} {tb : TS} {D : Ends} {σ : L2.St} {H : Hp} (hn : n ≤ hi + 1) (Pv : Nat → L2.St → Hp → Prop) (h0 : Pv 0 σ H)
    (hs : ∀ i σ H, i < n → Pv i σ H → g (.int ((hi - i : Nat) : Int)) σ H fun σ2 H2 => tb { D with nx := Pv (i + 1), ct := Pv (i + 1), bk := D.nx } σ2 H2) (hd : ∀ σ H, Pv n σ H → D.nx σ H) :
    ∃ W : Nat → Nat → L2.St → Hp → Prop, (∃ m, W 0 m σ H) ∧ ∀ i m σ H, W i m σ H →
      ((Itc (hi : Int) (-1) n).stop i H ∧ D.nx σ H) ∨ ((Itc (hi : Int) (-1) n).go i H ∧ ∃ N : L2.St → Hp → Prop, (∀ σ' H', N σ' H' → ∃ m', m' < m ∧ W (i + 1) m' σ' H') ∧ ∀ x H', (Itc (hi : Int) (-1) n).yld i H x H' → g x σ H' fun σ2 H2 => tb { D with nx := N, ct := N, bk := D.nx } σ2 H2) :=
  for_rangeC (lo := (hi : Int)) (c := -1) Pv h0 (fun i σ H hi' p => by rw [show (hi : Int) + (i : Int) * -1 = ((hi - i : Nat) : Int) by omega]; exact hs i σ H hi' p) hd
section
variable {P : Program} {w : World} {K : PySem.W.Frag} {mg : Str → Option Value} {base : Heap}
theorem sc_law : FnScope ["script", "bag", "one", "other", "due", "dish"] ["script"] (defScope s_law) := ⟨rfl, rfl, rfl, by decide +kernel, rfl, by decide +kernel, by decide +kernel⟩
theorem ok_law {f : Addr} {fd : FuncData} (F : L2.Fun K "law" "law" s_law f fd) (B : Bls mg) (c_law_bags : Cal P w K mg base 3 "_law_bags" (spBags K)) (c_law_table : Cal P w K mg base 3 "_law_table" (spLawTable K))
    (c_law_rest : Cal P w K mg base 1 "_law_rest" (spLawRest K)) (c_law_near : Cal P w K mg base 2 "_law_near" (spNear K)) (c_parted : Cal P w K mg base 5 "parted" (spParted K)) : FnOk P w K mg base L2.CX0 6 f fd ["script"] (spLaw K) := by
  refine F.ok sc_law (fun vs H Q E h => ?_) (fun cdv A outer s H vs Q E hr h => ?_)
  · obtain ⟨a, ns, rfl, _⟩ := h
    rfl
  · obtain ⟨a, ns, rfl, hs, hl, q⟩ := h
    refine ⟨_, (pss_cons (ps_for PassesOwn.never rfl (pi_list (pe_g c_law_bags hr (pa_cons (pv 0) (pa_cons pe_int pa_nil)))) (pg_name (i := 1) sc_law.nd rfl (Or.inl rfl))
      (pss_cons (ps_set (i := 2) sc_law.nd rfl (Or.inl rfl) (pe_g c_law_table hr (pa_cons (pv 1) (pa_cons pe_int (pa_cons pe_int pa_nil)))))
      (pss_cons (ps_for PassesOwn.never rfl (pi_tup (pe_tup (pa_cons (pe_g c_law_near hr (pa_cons (pv 1) (pa_cons (pv 2) pa_nil))) (pa_cons (pe_g c_law_near hr (pa_cons (pv 1) (pa_cons (pv 2) pa_nil))) (pa_cons (pe_g c_law_table hr (pa_cons (pv 1) (pa_cons pe_int (pa_cons pe_int pa_nil)))) pa_nil))))) (pg_name (i := 3) sc_law.nd rfl (Or.inl rfl))
      (pss_one (ps_if (pt_cmpR op_eq (pe_len B (pv 3)) (pe_len B (pv 2)) (nomark _))
      (pss_cons (ps_set (i := 4) sc_law.nd rfl (Or.inl rfl) pe_non)
      (pss_cons (ps_for PassesOwn.never rfl (pi_range3 (by rfl) B.range (pa_cons pe_int (pa_cons (pe_un un_neg pe_int) (pa_cons (pe_un un_neg pe_int) pa_nil)))) (pg_name (i := 5) sc_law.nd rfl (Or.inl rfl))
      (pss_one (ps_if (pt_cmpR (op_neD hr.units) (pe_ix ix_tup (pe_g c_law_rest hr (pa_cons (pv 2) (pa_cons (pv 5) (pa_cons pe_int pa_nil)))) pe_int (fun _ _ => rfl)) (pe_ix ix_tup (pe_g c_law_rest hr (pa_cons (pv 3) (pa_cons (pv 5) (pa_cons pe_int pa_nil)))) pe_int (fun _ _ => rfl)) (nomark _))
      (pss_one (ps_set (i := 4) sc_law.nd rfl (Or.inl rfl) (pv 5)))
      pss_nil)))
      (pss_one (ps_if (PW.pt (pw_or (pt_cmpR op_ne (pe_g c_parted hr (pa_cons (pv 2) (pa_cons (pv 3) pa_nil))) (pv 4) (nomark _)) (pw_or1 (pt_cmpR op_ne (pe_g c_parted hr (pa_cons (pv 3) (pa_cons (pv 2) pa_nil))) (pv 4) (nomark _)))))
      (pss_one (ps_ret pe_bl))
      pss_nil))))
      pss_nil)))
      (pss_one (ps_if (pt_cmpR op_notN (pe_g c_parted hr (pa_cons (pv 2) (pa_cons (pv 2) pa_nil))) pe_non (nomark _))
      (pss_one (ps_ret pe_bl))
      pss_nil)))))
      (pss_one (ps_ret (pe_and (pe_cmpR op_eq (pe_g c_parted hr (pa_cons (pe_tup (pa_cons (pe_tup (pa_cons pe_int (pa_cons pe_int pa_nil))) pa_nil)) (pa_cons (pe_tup (pa_cons (pe_tup (pa_cons pe_int (pa_cons pe_non pa_nil))) pa_nil)) pa_nil))) pe_int (nomark _)) (pe_one (pe_cmpR op_eq (pe_g c_parted hr (pa_cons (pe_op op_repT (pe_tup (pa_cons (pe_tup (pa_cons pe_int (pa_cons pe_int pa_nil))) pa_nil)) pe_int) (pa_cons (pe_op op_repT (pe_tup (pa_cons (pe_tup (pa_cons pe_int (pa_cons pe_non pa_nil))) pa_nil)) pe_int) pa_nil))) pe_int (nomark _))))))), ?_⟩
    refine ⟨_, rfl, a, ns, 4, rfl, hs, by decide, by decide, fun l bs H1 s1 nl hbs hba => ⟨l, rfl, ⟨_, SqL.of hbs⟩, ?_⟩⟩
    refine for_list (K := K) (a := l) (xs := bs.map V.ref) (fun j σ H' => ∃ (v1 v2 v3 v4 v5 : Option V), σ = [some (.ref a), v1, v2, v3, v4, v5] ∧ Evo H1 H') ⟨none, none, none, none, none, rfl, Evo.refl _⟩ ?_ ?_ ?_
    · rintro j σ H' hj ⟨v1, v2, v3, v4, v5, rfl, ev⟩
      exact SqL.of (ev.refsH hbs)
    · rintro j x σ H2 hx ⟨v1, v2, v3, v4, v5, rfl, ev⟩
      rw [List.getElem?_map] at hx
      obtain ⟨b, hb, rfl⟩ : ∃ b, bs[j]? = some b ∧ x = .ref b := by
        cases e : bs[j]? with
        | none => rw [e] at hx; cases hx
        | some b => rw [e] at hx; exact ⟨b, rfl, (Option.some.inj hx).symm⟩
      have Ba : BagAt K H2 b := (hba b (List.mem_of_getElem? hb)).evo ev
      have lim_small : ∀ t : List Guest, Lim 31 t → SmallT t := fun t h g hg => ⟨by have := (h g hg).2.1; omega, fun m e => by have := ((h g hg).2.2 m e).2; omega⟩
      -- one
      refine ⟨_, rfl, b, 4, 31, rfl, Ba, by decide, by decide, by decide, fun ta t H3 e3 tb t1 t4 lim => ?_⟩
      have ok : TabOk t := lim.ok (by decide) t1 (by omega)
      have sm := lim_small t lim
      -- the others
      refine ⟨_, rfl, _, rfl, b, ta, t, rfl, Ba.evo e3, tb, ok, sm, fun a1 u1 H4 e4 tu1 l1 ok1 sm1 => ?_⟩
      refine ⟨_, rfl, _, rfl, b, ta, t, rfl, (Ba.evo e3).evo e4, tb.evo e4, ok, sm, fun a2 u2 H5 e5 tu2 l2 ok2 sm2 => ?_⟩
      refine ⟨_, rfl, b, 4, 31, rfl, ((Ba.evo e3).evo e4).evo e5, by decide, by decide, by decide, fun a3 u3 H6 e6 tu3 t31 t34 lim3 => ?_⟩
      refine ⟨by show 3 ≤ sizeLine; decide, fun pt hpt => ⟨pt, rfl, ⟨_, SqT.of upd_same⟩, ?_⟩⟩
      have s7 := same_upd (o := .tup [.ref a1, .ref a2, .ref a3]) hpt
      have hpt7 : (upd H6 pt (.tup [.ref a1, .ref a2, .ref a3])) pt = some (.tup [.ref a1, .ref a2, .ref a3]) := upd_same
      generalize upd H6 pt (.tup [.ref a1, .ref a2, .ref a3]) = H7 at s7 hpt7 ⊢
      have e37 : Evo H3 H7 := ((e4.trans e5).trans e6).trans (Same.evo s7)
      have all3 : ∀ x ∈ [V.ref a1, V.ref a2, V.ref a3], ∃ (a' : Addr) (u : List Guest), x = .ref a' ∧ TableAt K H7 a' u ∧ TabOk u ∧ SmallT u := fun x hx => by
        simp only [List.mem_cons, List.not_mem_nil, or_false] at hx
        rcases hx with h | h | h
        · exact ⟨a1, u1, h, ((tu1.evo e5).evo e6).same s7, ok1, sm1⟩
        · exact ⟨a2, u2, h, (tu2.evo e6).same s7, ok2, sm2⟩
        · exact ⟨a3, u3, h, tu3.same s7, lim3.ok (by decide) t31 (by omega), lim_small u3 lim3⟩
      refine for_tup (K := K) (a := pt) (xs := [.ref a1, .ref a2, .ref a3]) (fun j σ H' => ∃ (v3 v4 v5 : Option V), σ = [some (.ref a), some (.ref b), some (.ref ta), v3, v4, v5] ∧ Same H7 H') ⟨_, _, _, rfl, Same.refl _⟩ ?_ ?_ ?_
      · rintro j σ H' hj ⟨v3, v4, v5, rfl, s'⟩
        exact SqT.of (s' _ _ hpt7)
      · rintro j x σ H8 hx ⟨v3, v4, v5, rfl, s8⟩
        obtain ⟨a', u, rfl, ua, oku, smu⟩ := all3 x (List.mem_of_getElem? hx)
        have ua8 := ua.same s8
        have ta8 := (tb.evo e37).same s8
        obtain ⟨xs, hxs, hlx, _⟩ := ta8.open
        obtain ⟨ys, hys, hly, _⟩ := ua8.open
        refine ⟨_, rfl, a', ys, rfl, .inr hys, _, rfl, ta, xs, rfl, .inr hxs, rfl, _, rfl, ?_⟩
        by_cases len : ys.length = xs.length
        · rw [len, decide_eq_true rfl]
          have tu : t.length = u.length := by omega
          refine iteT ?_
          refine ⟨_, rfl, _, rfl, ((165 : Nat) : Int), -1, -1, 166, rfl, RgC.neg (i := ((165 : Nat) : Int)) (j := -1) (by decide) (by decide) (by decide) (by decide), ?_⟩
          refine for_down (hi := 165) (n := 166) (by decide) (fun i σ H' => ∃ (v4 v5 : Option V) (v : V), v4 = some v ∧ σ = [some (.ref a), some (.ref b), some (.ref ta), some (.ref a'), v4, v5] ∧ Same H8 H' ∧ DueAt t u 165 i v) ⟨_, _, .non, rfl, rfl, Same.refl _, .inl ⟨rfl, fun d h1 h2 => by omega⟩⟩ ?_ ?_
          · rintro i σ H9 hi ⟨v4, v5, v, rfl, rfl, s9, due⟩
            have ta9 := ta8.same s9
            refine ⟨_, rfl, _, rfl, arg1 ⟨ta, t, 0, ((165 - i : Nat) : Int), rfl, ta9, ok, ok.1, by omega, by omega, fun q1 lh1 lt1 ps1 k1 H10 s10 nl1 nt1 hq1 hh1 ht1 tk1 ek1 => ⟨q1, _, _, _, rfl, rfl, SqT.of hq1, rfl, ?_⟩⟩⟩
            have ua10 := (ua8.same s9).same s10
            refine ⟨_, rfl, _, rfl, arg1 ⟨a', u, 0, ((165 - i : Nat) : Int), rfl, ua10, oku, oku.1, by omega, by omega, fun q2 lh2 lt2 ps2 k2 H11 s11 nl2 nt2 hq2 hh2 ht2 tk2 ek2 => ⟨q2, _, _, _, rfl, rfl, SqT.of hq2, rfl, ?_⟩⟩⟩
            have s811 := Same.trans s9 (Same.trans s10 s11)
            refine ne_ints (SqL.of (s11 _ _ hh1)) (SqL.of hh2) ⟨_, rfl, ?_⟩
            by_cases e : finL t 0 ((165 - i : Nat) : Int) = finL u 0 ((165 - i : Nat) : Int)
            · rw [decide_eq_true e]
              refine iteF ⟨_, _, v, rfl, rfl, s811, ?_⟩
              rcases due with ⟨z1, z2⟩ | ⟨d, z1, z2, z3, z4, z5⟩
              · refine .inl ⟨z1, fun d h1 h2 => ?_⟩
                by_cases y : d = 165 - i
                · rw [y]; exact e
                · exact z2 d h1 (by omega)
              · refine .inr ⟨d, z1, by omega, z3, z4, fun d' h1 h2 => ?_⟩
                by_cases y : d' = 165 - i
                · rw [y]; exact e
                · exact z5 d' h1 (by omega)
            · rw [decide_eq_false e]
              exact iteT ⟨_, rfl, _, _, .int ((165 - i : Nat) : Int), rfl, rfl, s811, .inr ⟨165 - i, by omega, by omega, rfl, e, fun d' h1 h2 => by omega⟩⟩
          rintro σ H9 ⟨v4, v5, v, rfl, rfl, s9, due⟩
          have n4 : t.length ≤ 4 := by omega
          refine ⟨_, rfl, _, rfl, ta, a', t, u, rfl, ta8.same s9, ua8.same s9, ok, oku, tu, sm, smu, fun w1 H10 s10 pv1 => ?_⟩
          have e1 := due_part ok oku sm smu tu n4 pv1 due
          subst e1
          have sc : scal w1 w1 = true := by
            rcases pv1 with ⟨rfl, _⟩ | ⟨_, _, rfl, _⟩ <;> rfl
          refine ⟨_, rfl, sc, _, rfl, if_ne ?_⟩
          refine ⟨_, rfl, _, rfl, a', ta, u, t, rfl, (ua8.same s9).same s10, (ta8.same s9).same s10, oku, ok, tu.symm, smu, sm, fun w2 H11 s11 pv2 => ?_⟩
          have e2 := due_part ok oku sm smu tu n4 pv2.swap due
          subst e2
          exact ⟨_, rfl, sc, _, rfl, if_ne ⟨_, _, _, rfl, Same.trans (Same.trans s8 s9) (Same.trans s10 s11)⟩⟩
        · rw [decide_eq_false (fun z => len (by have := V.int.inj z; omega))]
          exact iteF ⟨_, _, _, rfl, s8⟩
      rintro σ H8 ⟨v3, v4, v5, rfl, s8⟩
      have ta8 := (tb.evo e37).same s8
      refine ⟨_, rfl, _, rfl, ta, ta, t, t, rfl, ta8, ta8, ok, ok, rfl, sm, sm, fun v H9 s9 pv => ?_⟩
      rw [part_self pv]
      exact ⟨rfl, _, rfl, iteF ⟨_, _, _, _, _, rfl, (ev.trans e3).trans (e37.trans (Same.evo (Same.trans s8 s9)))⟩⟩
    · rintro σ H' ⟨v1, v2, v3, v4, v5, rfl, ev⟩
      refine nx_mk ?_
      -- the four tables
      have mk1 : ∀ (Hx : Hp) (q p : Addr) (o : Option Int) (c : Int), Hx p = some (.tup [.int c, optV o]) → Hx q = some (.tup [.ref p]) → TableAt K Hx q [(c, o)] := fun Hx q p o c h1 h2 => .ofRefs (SqT.of h2) rfl fun i g hi => by
        cases i with
        | zero => cases hi; exact ⟨p, rfl, SqT.of h1⟩
        | succ i => cases hi
      have mk8 : ∀ (Hx : Hp) (q p : Addr) (o : Option Int) (c : Int), Hx p = some (.tup [.int c, optV o]) → Hx q = some (.tup (List.replicate 8 [V.ref p]).flatten) → TableAt K Hx q (List.replicate 8 (c, o)) := fun Hx q p o c h1 h2 => .ofRefs (SqT.of h2) (by rw [rep_flat]; simp) fun i g hi => by
        have il : i < 8 := by
          have := (List.getElem?_eq_some_iff.mp hi).1
          simpa using this
        rw [List.getElem?_replicate, if_pos il] at hi
        cases hi
        exact ⟨p, by rw [rep_flat, List.getElem?_replicate, if_pos il], SqT.of h1⟩
      have ok1 : ∀ (n : Nat) (c : Int) (o : Option Int), 1 ≤ n → n ≤ 8 → okG (c, o) → TabOk (List.replicate n (c, o)) ∧ SmallT (List.replicate n (c, o)) := fun n c o h1 h8 h => okG_tab (fun g hg => by rw [List.eq_of_mem_replicate hg]; exact h) (by rw [List.length_replicate]; exact h1) (by rw [List.length_replicate]; exact h8)
      have g30 : okG (30, some 30) := ⟨⟨by decide, by decide⟩, fun m hm => by cases hm; exact ⟨by decide, by decide⟩⟩
      have g30n : okG (30, none) := ⟨⟨by decide, by decide⟩, fun m hm => by cases hm⟩
      have g0 : okG (0, some 30) := ⟨⟨by decide, by decide⟩, fun m hm => by cases hm; exact ⟨by decide, by decide⟩⟩
      have g0n : okG (0, none) := ⟨⟨by decide, by decide⟩, fun m hm => by cases hm⟩
      refine ⟨by show 2 ≤ sizeLine; decide, fun p1 hp1 => ?_⟩
      have q1 := same_upd (o := .tup [.int 30, .int 30]) hp1
      refine ⟨by show 1 ≤ sizeLine; decide, fun p2 hp2 => ?_⟩
      have q2 := same_upd (o := .tup [.ref p1]) hp2
      refine ⟨by show 2 ≤ sizeLine; decide, fun p3 hp3 => ?_⟩
      have q3 := same_upd (o := .tup [.int 30, .non]) hp3
      refine ⟨by show 1 ≤ sizeLine; decide, fun p4 hp4 => ?_⟩
      have q4 := same_upd (o := .tup [.ref p3]) hp4
      have T1 := mk1 _ p2 p1 (some 30) 30 (q4 _ _ (q3 _ _ (q2 _ _ upd_same))) (q4 _ _ (q3 _ _ upd_same))
      have T2 := mk1 _ p4 p3 none 30 (q4 _ _ upd_same) upd_same
      refine ⟨p2, p4, [(30, some 30)], [(30, none)], rfl, T1, T2, (ok1 1 30 (some 30) (by decide) (by decide) g30).1, (ok1 1 30 none (by decide) (by decide) g30n).1, rfl, (ok1 1 30 (some 30) (by decide) (by decide) g30).2, (ok1 1 30 none (by decide) (by decide) g30n).2, fun v H5 s5 pv => ?_⟩
      rw [part61 pv]
      refine ⟨rfl, _, rfl, ?_⟩
      rw [decide_eq_true rfl]
      refine iteT ?_
      refine ⟨by show 2 ≤ sizeLine; decide, fun p6 hp6 => ?_⟩
      have q6 := same_upd (o := .tup [.int 0, .int 30]) hp6
      refine ⟨by show 1 ≤ sizeLine; decide, fun p7 hp7 => ?_⟩
      have q7 := same_upd (o := .tup [.ref p6]) hp7
      refine ⟨p7, 8, _, rfl, rfl, SqT.of upd_same, by simp, by decide, by decide, by show 1 ≤ 1000; decide, fun p8 hp8 => ?_⟩
      have q8 := same_upd (o := .tup (List.replicate 8 [V.ref p6]).flatten) hp8
      refine ⟨by show 2 ≤ sizeLine; decide, fun p9 hp9 => ?_⟩
      have q9 := same_upd (o := .tup [.int 0, .non]) hp9
      refine ⟨by show 1 ≤ sizeLine; decide, fun p10 hp10 => ?_⟩
      have q10 := same_upd (o := .tup [.ref p9]) hp10
      refine ⟨p10, 8, _, rfl, rfl, SqT.of upd_same, by simp, by decide, by decide, by show 1 ≤ 1000; decide, fun p11 hp11 => ?_⟩
      have q11 := same_upd (o := .tup (List.replicate 8 [V.ref p9]).flatten) hp11
      have T3 := mk8 _ p8 p6 (some 30) 0 (q11 _ _ (q10 _ _ (q9 _ _ (q8 _ _ (q7 _ _ upd_same))))) (q11 _ _ (q10 _ _ (q9 _ _ upd_same)))
      have T4 := mk8 _ p11 p9 none 0 (q11 _ _ (q10 _ _ upd_same)) upd_same
      refine ⟨p8, p11, List.replicate 8 (0, some 30), List.replicate 8 (0, none), rfl, T3, T4, (ok1 8 0 (some 30) (by decide) (by decide) g0).1, (ok1 8 0 none (by decide) (by decide) g0n).1, rfl, (ok1 8 0 (some 30) (by decide) (by decide) g0).2, (ok1 8 0 none (by decide) (by decide) g0n).2, fun v H6 s6 pv => ?_⟩
      rw [part241 pv]
      refine ⟨rfl, ?_⟩
      rw [decide_eq_true rfl]
      exact q _
end
end Lp
namespace Lp
open PySem PySem.Spec PyProof.Rows L2
section
variable {P : Program} {w : World} {K : PySem.W.Frag} {mg : Str → Option Value} {base : Heap} {C : Addr} {x m qual : Str} {st : Stmt} {k n : Nat} {ps : List Str} {sp : Sp}
theorem DefIn.cal (D : DefIn K mg x st) (h : ∀ f fd, L2.Fun K x x st f fd → FnOk P w K mg base L2.CX0 k f fd ps sp)
    (hb : ∀ (kV doc pm : Value) (an : Option Addr) (cdv ct : Value) (us : List Value), us.length = ps.length → bindArgs (PySem.W.fnOf x x (defArgs st) (defBody st) (defScope st) .none kV doc pm an cdv ct) ⟨us, []⟩ = pure (ps.zip us)) : Cal P w K mg base k x sp := by
  obtain ⟨f, fd, F, hm⟩ := D.ex
  exact ⟨f, fd, ps, h f fd F, hm, F.kp, F.binds hb⟩
theorem MethIn.met (D : MethIn K C m qual st) (cl : Cls K C) (h : ∀ f fd, L2.Fun K m qual st f fd → FnOk P w K mg base L2.CX0 k f fd ps sp)
    (hb : ∀ (kV doc pm : Value) (an : Option Addr) (cdv ct : Value) (us : List Value), us.length = ps.length → bindArgs (PySem.W.fnOf m qual (defArgs st) (defBody st) (defScope st) .none kV doc pm an cdv ct) ⟨us, []⟩ = pure (ps.zip us)) : Met P w K mg base k C m sp := by
  obtain ⟨f, fd, F, hm⟩ := D.ex
  exact ⟨f, fd, ps, cl, hm, h f fd F, F.binds hb⟩
theorem MethIn.mak (D : MethIn K C "__init__" qual st) (hC : mg x = some (.ref C)) (mk : PySem.W.makesIn K C = true) (kc : PySem.W.keepIn K (.ref C) = true) (h : ∀ f fd, L2.Fun K "__init__" qual st f fd → FnOk P w K mg base L2.CX0 k f fd ps sp)
    (hb : ∀ (kV doc pm : Value) (an : Option Addr) (cdv ct : Value) (us : List Value), us.length = ps.length → bindArgs (PySem.W.fnOf "__init__" qual (defArgs st) (defBody st) (defScope st) .none kV doc pm an cdv ct) ⟨us, []⟩ = pure (ps.zip us)) : Mak P w K mg base k x C sp := by
  obtain ⟨f, fd, F, hm⟩ := D.ex
  exact ⟨f, fd, ps, ⟨mk, hm.at_, hm.fn, kc⟩, h f fd F, hC, F.binds hb⟩
theorem DefKw.cal (D : DefKw K mg x st) (h : ∀ f fd, FunD K x x (defArgs st) (defBody st) (defScope st) [] [("first", .int 0)] f fd → FnOk P w K mg base L2.CX0 k f fd ps sp) (hn : n + 1 = ps.length)
    (h0 : ∀ (D : Addr) (doc pm : Value) (an : Option Addr) (cdv ct : Value) (us ks : List Value), us.length = n → ks.length = 1 → KwChain D ((["first"] : List Str).zip ks) (bindArgs (PySem.W.fnOf x x (defArgs st) (defBody st) (defScope st) .none (.ref D) doc pm an cdv ct) ⟨us, []⟩) (ps.zip (us ++ ks)))
    (h1 : ∀ (kV doc pm : Value) (an : Option Addr) (cdv ct : Value) (us ws : List Value), us.length = n → ws.length = 1 → bindArgs (PySem.W.fnOf x x (defArgs st) (defBody st) (defScope st) .none kV doc pm an cdv ct) ⟨us, (["first"] : List Str).zip ws⟩ = pure (ps.zip (us ++ ws))) : CalK P w K mg base k n x sp := by
  obtain ⟨f, fd, F, hm⟩ := D.ex
  refine ⟨f, fd, ps, h f fd F, hm, F.kp, F.binds0 n (by simp) hn h0, ⟨fun s us ws X l1 l2 => ?_, fun r1 r2 => r1.append r2⟩⟩
  obtain ⟨oc, od, dV, kV, doc, pm, an, cdv, ct, osl, rfl, lk, hcd, hD, hK⟩ := F.ex
  rcases hD with ⟨_, rfl⟩ | ⟨e, _⟩
  · exact .of_eq (h1 kV doc pm an cdv ct us ws l1 l2)
  · exact absurd rfl e
end
theorem _root_.L2.Fun.binds1 {K : PySem.W.Frag} {x qual : Str} {st : Stmt} {f : Addr} {fd : FuncData} (F : L2.Fun K x qual st f fd)
    (hb : ∀ (kV doc pm : Value) (an : Option Addr) (cdv ct : Value) (us : List Value), us.length = (["script"] : List Str).length → bindArgs (PySem.W.fnOf x qual (defArgs st) (defBody st) (defScope st) .none kV doc pm an cdv ct) ⟨us, []⟩ = pure ((["script"] : List Str).zip us)) (s : Shared) (v : Value) : BindsTo s fd ⟨[v], []⟩ [("script", v)] := by
  obtain ⟨oc, od, kV, doc, pm, an, cdv, ct, osl, rfl, lk, hcd⟩ := F.ex
  exact .of_eq (hb kV doc pm an cdv ct [v] rfl)
end Lp
namespace Lp
open PySem PySem.Spec PyProof.Rows L2
structure Facts (K : PySem.W.Frag) (mg : Str → Option Value) : Prop where
  bls : Bls mg
  greatest : Greatest mg
  smalls : Smalls mg
  going : ∃ C : Addr, mg "Going" = some (.ref C) ∧ GoT K C ∧ PySem.W.makesIn K C = true ∧ PySem.W.keepIn K (.ref C) = true ∧ MethIn K C "would_take" "Going.would_take" s_Going_would_take ∧ MethIn K C "visit" "Going.visit" s_Going_visit ∧ MethIn K C "rounds" "Going.rounds" s_Going_rounds ∧ MethIn K C "__init__" "Going.__init__" s_Going_init ∧ MethIn K C "go" "Going.go" s_Going_go
  d_is_within : DefIn K mg "is_within" s_is_within
  d_is_guest : DefIn K mg "is_guest" s_is_guest
  d_is_table : DefIn K mg "is_table" s_is_table
  d_need_table : DefIn K mg "need_table" s_need_table
  d_rested : DefIn K mg "rested" s_rested
  d_law_cell_at : DefIn K mg "_law_cell_at" s_law_cell_at
  d_law_draws : DefIn K mg "_law_draws" s_law_draws
  d_law_bag : DefIn K mg "_law_bag" s_law_bag
  d_law_bags : DefIn K mg "_law_bags" s_law_bags
  d_law_take : DefIn K mg "_law_take" s_law_take
  d_law_far_draw : DefIn K mg "_law_far_draw" s_law_far_draw
  d_law_table : DefIn K mg "_law_table" s_law_table
  d_law_rest : DefIn K mg "_law_rest" s_law_rest
  d_law_with : DefIn K mg "_law_with" s_law_with
  d_is_small : DefIn K mg "is_small" s_is_small
  d_parted : DefIn K mg "parted" s_parted
  d_law_near : DefIn K mg "_law_near" s_law_near
  d_law : DefIn K mg "law" s_law
theorem fin {P : Program} {w : World} {K : PySem.W.Frag} {mg : Str → Option Value} {fa : Addr} (hfa : mg "law" = some (.ref fa)) (A : Facts K mg) :
    ∃ fd : FuncData, (∀ (s : Shared) (v : Value), BindsTo s fd ⟨[v], []⟩ [("script", v)]) ∧ ∀ base : Heap, K.In base → base.Ns mainGlobals mg → FnOk P w K mg base L2.CX0 6 fa fd ["script"] (spLaw K) := by
  obtain ⟨fl, fd, Fl, hl⟩ := A.d_law.ex
  rw [hfa] at hl
  cases hl
  refine ⟨fd, fun s v => Fl.binds1 (fun _ _ _ _ _ _ us hl => match us, hl with | [_], _ => rfl) s v, fun base KX NX => ?_⟩
  have B := A.bls
  have G := A.greatest
  have S := A.smalls
  obtain ⟨C, hC, T, mkC, kpC, i_would_take, i_visit, i_rounds, i_init, i_go⟩ := A.going
  have c_is_within : Cal P w K mg base 1 "is_within" (spWithin K) := A.d_is_within.cal (fun f fd F => ok_is_within F B) (fun _ _ _ _ _ _ us hl => match us, hl with | [_, _, _], _ => rfl)
  have c_is_guest : Cal P w K mg base 2 "is_guest" (spGuest K) := A.d_is_guest.cal (fun f fd F => ok_is_guest F B G c_is_within) (fun _ _ _ _ _ _ us hl => match us, hl with | [_], _ => rfl)
  have c_is_table : Cal P w K mg base 3 "is_table" (spTable K) := A.d_is_table.cal (fun f fd F => ok_is_table F B c_is_guest) (fun _ _ _ _ _ _ us hl => match us, hl with | [_], _ => rfl)
  have c_need_table : Cal P w K mg base 4 "need_table" (spNeedTable K) := A.d_need_table.cal (fun f fd F => ok_need_table F B c_is_table) (fun _ _ _ _ _ _ us hl => match us, hl with | [_], _ => rfl)
  have m_would_take : Met P w K mg base 1 C "would_take" (spWould K C) := i_would_take.met T.cl (fun f fd F => ok_would F T) (fun _ _ _ _ _ _ us hl => match us, hl with | [_, _], _ => rfl)
  have m_visit : Met P w K mg base 2 C "visit" (spVisit K C) := i_visit.met T.cl (fun f fd F => ok_visit F T B m_would_take) (fun _ _ _ _ _ _ us hl => match us, hl with | [_], _ => rfl)
  have m_rounds : Met P w K mg base 1 C "rounds" (spRounds K C) := i_rounds.met T.cl (fun f fd F => ok_rounds F T B) (fun _ _ _ _ _ _ us hl => match us, hl with | [_, _, _], _ => rfl)
  have n_Going : Mak P w K mg base 1 "Going" C (spInit K C) := i_init.mak hC mkC kpC (fun f fd F => ok_init F T B) (fun _ _ _ _ _ _ us hl => match us, hl with | [_, _, _, _], _ => rfl)
  have m_go : Met P w K mg base 3 C "go" (spGo K C) := i_go.met T.cl (fun f fd F => ok_go F T B m_would_take m_rounds m_visit) (fun _ _ _ _ _ _ us hl => match us, hl with | [_, _], _ => rfl)
  have c_rested : Cal P w K mg base 4 "rested" (spRested K) := A.d_rested.cal (fun f fd F => ok_rested F T n_Going m_go) (fun _ _ _ _ _ _ us hl => match us, hl with | [_, _, _], _ => rfl)
  have c_law_cell_at : Cal P w K mg base 1 "_law_cell_at" (spCell K) := A.d_law_cell_at.cal (fun f fd F => ok_cell F B) (fun _ _ _ _ _ _ us hl => match us, hl with | [_, _], _ => rfl)
  have c_law_draws : Cal P w K mg base 1 "_law_draws" spDraws := A.d_law_draws.cal (fun f fd F => ok_draws F B) (fun _ _ _ _ _ _ us hl => match us, hl with | [_, _, _], _ => rfl)
  have c_law_bag : Cal P w K mg base 2 "_law_bag" (spBag K) := A.d_law_bag.cal (fun f fd F => ok_bag F c_law_cell_at c_law_draws) (fun _ _ _ _ _ _ us hl => match us, hl with | [_, _], _ => rfl)
  have c_law_bags : Cal P w K mg base 3 "_law_bags" (spBags K) := A.d_law_bags.cal (fun f fd F => ok_bags F B c_law_bag) (fun _ _ _ _ _ _ us hl => match us, hl with | [_, _], _ => rfl)
  have c_law_take : Cal P w K mg base 1 "_law_take" (spTake K) := A.d_law_take.cal (fun f fd F => ok_take F B) (fun _ _ _ _ _ _ us hl => match us, hl with | [_, _], _ => rfl)
  have c_law_far_draw : Cal P w K mg base 2 "_law_far_draw" (spFar K) := A.d_law_far_draw.cal (fun f fd F => ok_far F B c_law_take) (fun _ _ _ _ _ _ us hl => match us, hl with | [_, _], _ => rfl)
  have c_law_table : Cal P w K mg base 3 "_law_table" (spLawTable K) := A.d_law_table.cal (fun f fd F => ok_ltable F B c_law_take c_law_far_draw) (fun _ _ _ _ _ _ us hl => match us, hl with | [_, _, _], _ => rfl)
  have c_law_rest : Cal P w K mg base 1 "_law_rest" (spLawRest K) := A.d_law_rest.cal (fun f fd F => ok_lrest F B) (fun _ _ _ _ _ _ us hl => match us, hl with | [_, _, _], _ => rfl)
  have c_law_with : Cal P w K mg base 1 "_law_with" (spWith K) := A.d_law_with.cal (fun f fd F => ok_lwith F) (fun _ _ _ _ _ _ us hl => match us, hl with | [_, _, _], _ => rfl)
  have c_is_small : Cal P w K mg base 1 "is_small" (spIsSmall K) := A.d_is_small.cal (fun f fd F => ok_is_small F S) (fun _ _ _ _ _ _ us hl => match us, hl with | [_], _ => rfl)
  have c_parted : Cal P w K mg base 5 "parted" (spParted K) := A.d_parted.cal (fun f fd F => ok_parted F B S c_need_table c_is_small c_rested) (fun _ _ _ _ _ _ us hl => match us, hl with | [_, _], _ => rfl)
  have c_law_near : Cal P w K mg base 2 "_law_near" (spNear K) := A.d_law_near.cal (fun f fd F => ok_lnear F B c_law_take c_law_with) (fun _ _ _ _ _ _ us hl => match us, hl with | [_, _], _ => rfl)
  exact ok_law Fl B c_law_bags c_law_table c_law_rest c_law_near c_parted
end Lp
open PySem PySem.W PyProof.Rows
set_option maxHeartbeats 0 in
open_top head for PySem.Challenge.rw_lastpiece_k12_two_tables_by_hand
set_option maxRecDepth 100000 in
set_option maxHeartbeats 0 in
theorem PySem.Challenge.cw_lastpiece_k12_two_tables_by_hand_holds : PySem.Challenge.rw_lastpiece_k12_two_tables_by_hand.Holds := by
  exact head (by
  k_fill
  refine L2.walk_ofK (n := 63) (k := 6) (x := "script") (CX := L2.CX0) (sp := Lp.spLaw) rfl (by decide) rfl ⟨rfl, by decide, by decide⟩ (fun w h Y => PySem.W.kIn_of Y) ?F (fun _ _ a ns hl _ hS => ⟨a, ns, rfl, hS, hl, fun _ => rfl⟩) fun _ _ _ _ z => z
  case F =>
    intro w mg fa h KX G hmg
    refine Lp.fin hmg ⟨⟨PySem.W.mg_none_of KX G (by k_is), PySem.W.mg_none_of KX G (by k_is), PySem.W.mg_none_of KX G (by k_is), PySem.W.mg_none_of KX G (by k_is), PySem.W.mg_none_of KX G (by k_is), PySem.W.mg_none_of KX G (by k_is), PySem.W.mg_none_of KX G (by k_is), PySem.W.mg_none_of KX G (by k_is), PySem.W.mg_none_of KX G (by k_is), PySem.W.mg_none_of KX G (by k_is), PySem.W.mg_none_of KX G (by k_is), PySem.W.mg_none_of KX G (by k_is), PySem.W.mg_none_of KX G (by k_is), PySem.W.mg_none_of KX G (by k_is), PySem.W.mg_none_of KX G (by k_is), PySem.W.mg_none_of KX G (by k_is)⟩, ?_, ?_, ?_, ?_, ?_, ?_, ?_, ?_, ?_, ?_, ?_, ?_, ?_, ?_, ?_, ?_, ?_, ?_, ?_, ?_, ?_⟩
    · refine' ⟨_, PySem.W.mg_of KX G ?ag, ?rg⟩; (case ag => k_is); exact ⟨_, rfl⟩
    · refine' ⟨⟨_, PySem.W.mg_of KX G ?as1, ?rs1⟩, ⟨_, PySem.W.mg_of KX G ?as2, ?rs2⟩⟩; (case as1 => k_is); (case as2 => k_is); exact ⟨_, rfl⟩; exact ⟨_, rfl⟩
    · refine' ⟨_, PySem.W.mg_of KX G ?a, ⟨L2.Cls.mk ?c1 ?c2 ?c3 ?c4, ?n1, ?n2, ?n3, ?n4, ?n5, ?n6⟩, ?mk, ?kc, Lp.methIn_mk ?a0 ?l0 ?i0 ?c0_ ?k0, Lp.methIn_mk ?a1 ?l1 ?i1 ?c1_ ?k1, Lp.methIn_mk ?a2 ?l2 ?i2 ?c2_ ?k2, Lp.methIn_mk ?a3 ?l3 ?i3 ?c3_ ?k3, Lp.methIn_mk ?a4 ?l4 ?i4 ?c4_ ?k4⟩; (case a => k_is)
      (case a0 => k_is)
      (case l0 => k_is)
      (case i0 => k_is)
      (case c0_ => k_is)
      (case k0 => k_is)
      (case a1 => k_is)
      (case l1 => k_is)
      (case i1 => k_is)
      (case c1_ => k_is)
      (case k1 => k_is)
      (case a2 => k_is)
      (case l2 => k_is)
      (case i2 => k_is)
      (case c2_ => k_is)
      (case k2 => k_is)
      (case a3 => k_is)
      (case l3 => k_is)
      (case i3 => k_is)
      (case c3_ => k_is)
      (case k3 => k_is)
      (case a4 => k_is)
      (case l4 => k_is)
      (case i4 => k_is)
      (case c4_ => k_is)
      (case k4 => k_is)
      (case c1 => k_is)
      (case c2 => k_is)
      (case c3 => k_is)
      (case c4 => k_is)
      (case n1 => show PySem.W.findIn _ _ _ = _; k_is)
      (case n2 => show PySem.W.findIn _ _ _ = _; k_is)
      (case n3 => show PySem.W.findIn _ _ _ = _; k_is)
      (case n4 => show PySem.W.findIn _ _ _ = _; k_is)
      (case n5 => show PySem.W.findIn _ _ _ = _; k_is)
      (case n6 => show PySem.W.findIn _ _ _ = _; k_is)
      (case mk => k_is)
      (case kc => k_is)
    · refine' Lp.defIn_mk KX G ?a_0 ?l_0 ?c_0 ?k_0; (case a_0 => k_is); (case l_0 => k_is); (case c_0 => k_is); (case k_0 => k_is)
    · refine' Lp.defIn_mk KX G ?a_1 ?l_1 ?c_1 ?k_1; (case a_1 => k_is); (case l_1 => k_is); (case c_1 => k_is); (case k_1 => k_is)
    · refine' Lp.defIn_mk KX G ?a_2 ?l_2 ?c_2 ?k_2; (case a_2 => k_is); (case l_2 => k_is); (case c_2 => k_is); (case k_2 => k_is)
    · refine' Lp.defIn_mk KX G ?a_3 ?l_3 ?c_3 ?k_3; (case a_3 => k_is); (case l_3 => k_is); (case c_3 => k_is); (case k_3 => k_is)
    · refine' Lp.defIn_mk KX G ?a_9 ?l_9 ?c_9 ?k_9; (case a_9 => k_is); (case l_9 => k_is); (case c_9 => k_is); (case k_9 => k_is)
    · refine' Lp.defIn_mk KX G ?a_10 ?l_10 ?c_10 ?k_10; (case a_10 => k_is); (case l_10 => k_is); (case c_10 => k_is); (case k_10 => k_is)
    · refine' Lp.defIn_mk KX G ?a_11 ?l_11 ?c_11 ?k_11; (case a_11 => k_is); (case l_11 => k_is); (case c_11 => k_is); (case k_11 => k_is)
    · refine' Lp.defIn_mk KX G ?a_12 ?l_12 ?c_12 ?k_12; (case a_12 => k_is); (case l_12 => k_is); (case c_12 => k_is); (case k_12 => k_is)
    · refine' Lp.defIn_mk KX G ?a_13 ?l_13 ?c_13 ?k_13; (case a_13 => k_is); (case l_13 => k_is); (case c_13 => k_is); (case k_13 => k_is)
    · refine' Lp.defIn_mk KX G ?a_14 ?l_14 ?c_14 ?k_14; (case a_14 => k_is); (case l_14 => k_is); (case c_14 => k_is); (case k_14 => k_is)
    · refine' Lp.defIn_mk KX G ?a_15 ?l_15 ?c_15 ?k_15; (case a_15 => k_is); (case l_15 => k_is); (case c_15 => k_is); (case k_15 => k_is)
    · refine' Lp.defIn_mk KX G ?a_16 ?l_16 ?c_16 ?k_16; (case a_16 => k_is); (case l_16 => k_is); (case c_16 => k_is); (case k_16 => k_is)
    · refine' Lp.defIn_mk KX G ?a_17 ?l_17 ?c_17 ?k_17; (case a_17 => k_is); (case l_17 => k_is); (case c_17 => k_is); (case k_17 => k_is)
    · refine' Lp.defIn_mk KX G ?a_18 ?l_18 ?c_18 ?k_18; (case a_18 => k_is); (case l_18 => k_is); (case c_18 => k_is); (case k_18 => k_is)
    · refine' Lp.defIn_mk KX G ?a_19 ?l_19 ?c_19 ?k_19; (case a_19 => k_is); (case l_19 => k_is); (case c_19 => k_is); (case k_19 => k_is)
    · refine' Lp.defIn_mk KX G ?a_20 ?l_20 ?c_20 ?k_20; (case a_20 => k_is); (case l_20 => k_is); (case c_20 => k_is); (case k_20 => k_is)
    · refine' Lp.defIn_mk KX G ?a_21 ?l_21 ?c_21 ?k_21; (case a_21 => k_is); (case l_21 => k_is); (case c_21 => k_is); (case k_21 => k_is)
    · refine' Lp.defIn_mk KX G ?a_22 ?l_22 ?c_22 ?k_22; (case a_22 => k_is); (case l_22 => k_is); (case c_22 => k_is); (case k_22 => k_is))
