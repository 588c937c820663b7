import PyProof.Rows.All
import Wide.All
import OpenK.AllK
import Wide.FinOn
import HandS.ForMost
import HandS.IsInst
import HandS.Codes
import HandS.Defaults
import HandS.Conv
import HandS.Walk
import HandS.TupAny
import HandS.TupMul
import PySem.Challenge.RW_lastpiece_k01_tables_known
set_option Elab.async false
set_option linter.all false
set_option maxRecDepth 100000
set_option maxHeartbeats 4000000
/-! The dish, piece by piece, in plain Lean. -/
namespace D
/-- guests: courtesy and enough -/
abbrev Gs := Nat → Int × Option Int
/-- what lies on the dish, what each has -/
structure S where
  left : Int
  had : Nat → Int
def wants (g : Gs) (s : S) (i : Nat) : Prop := (g i).1 < s.left ∧ ∀ m, (g i).2 = some m → s.had i < m
instance (g : Gs) (s : S) (i : Nat) : Decidable (wants g s i) :=
  match h : (g i).2 with
  | none => if h1 : (g i).1 < s.left then .isTrue ⟨h1, fun m e => by rw [h] at e; cases e⟩ else .isFalse fun z => h1 z.1
  | some m => if h1 : (g i).1 < s.left ∧ s.had i < m then .isTrue ⟨h1.1, fun m' e => by rw [h] at e; cases e; exact h1.2⟩ else .isFalse fun z => h1 ⟨z.1, z.2 m h⟩
def bump (h : Nat → Int) (i : Nat) : Nat → Int := fun j => if j = i then h j + 1 else h j
theorem bump_self (h : Nat → Int) (i : Nat) : bump h i i = h i + 1 := by simp [bump]
theorem bump_ne (h : Nat → Int) {i j : Nat} (e : j ≠ i) : bump h i j = h j := by simp [bump, e]
def vis (g : Gs) (s : S) (i : Nat) : S := if wants g s i then ⟨s.left - 1, bump s.had i⟩ else s
theorem vis_yes {g : Gs} {s : S} {i : Nat} (h : wants g s i) : vis g s i = ⟨s.left - 1, bump s.had i⟩ := if_pos h
theorem vis_no {g : Gs} {s : S} {i : Nat} (h : ¬ wants g s i) : vis g s i = s := if_neg h
/-- behind k visits -/
def run (g : Gs) (n f : Nat) (d : Int) : Nat → S
  | 0 => ⟨d, fun _ => 0⟩
  | k + 1 => vis g (run g n f d k) ((f + k) % n)
def Quiet (g : Gs) (n : Nat) (s : S) : Prop := ∀ i, i < n → ¬ wants g s i
section
variable {g : Gs} {n f : Nat} {d : Int}
theorem run_succ (k : Nat) : run g n f d (k + 1) = vis g (run g n f d k) ((f + k) % n) := rfl
theorem vis_left (s : S) (i : Nat) : (vis g s i).left ≤ s.left ∧ s.left - 1 ≤ (vis g s i).left := by
  unfold vis; split <;> simp <;> omega
theorem vis_had (s : S) (i j : Nat) : s.had j ≤ (vis g s i).had j := by
  unfold vis bump; split
  · simp only; split <;> omega
  · omega
/-- who would not take never takes again -/
theorem no_stays {s : S} {i : Nat} (j : Nat) (h : ¬ wants g s i) : ¬ wants g (vis g s j) i := by
  intro z
  apply h
  have h1 := vis_left (g := g) s j
  have h2 := vis_had (g := g) s j i
  exact ⟨by have := z.1; omega, fun m e => by have := z.2 m e; omega⟩
theorem run_left_le (k m : Nat) : (run g n f d (k + m)).left ≤ (run g n f d k).left := by
  induction m with
  | zero => exact Int.le_refl _
  | succ m ih =>
    have := vis_left (g := g) (run g n f d (k + m)) ((f + (k + m)) % n)
    rw [← Nat.add_assoc, run_succ]
    omega
theorem run_left_ge (k m : Nat) : (run g n f d k).left - m ≤ (run g n f d (k + m)).left := by
  induction m with
  | zero => simp
  | succ m ih =>
    have := vis_left (g := g) (run g n f d (k + m)) ((f + (k + m)) % n)
    rw [← Nat.add_assoc, run_succ]
    omega
theorem run_had_le (k m : Nat) (j : Nat) : (run g n f d k).had j ≤ (run g n f d (k + m)).had j := by
  induction m with
  | zero => exact Int.le_refl _
  | succ m ih =>
    have := vis_had (g := g) (run g n f d (k + m)) ((f + (k + m)) % n) j
    rw [← Nat.add_assoc, run_succ]
    omega
theorem had_nonneg (k j : Nat) : 0 ≤ (run g n f d k).had j := by
  have := run_had_le (g := g) (n := n) (f := f) (d := d) 0 k j
  rw [Nat.zero_add] at this
  exact this
theorem left_le (k : Nat) : (run g n f d k).left ≤ d := by
  have := run_left_le (g := g) (n := n) (f := f) (d := d) 0 k
  rw [Nat.zero_add] at this
  exact this
theorem no_stays_run {k i : Nat} (m : Nat) (h : ¬ wants g (run g n f d k) i) : ¬ wants g (run g n f d (k + m)) i := by
  induction m with
  | zero => exact h
  | succ m ih => exact no_stays _ ih
theorem quiet_stays {k : Nat} (hn : 0 < n) (h : Quiet g n (run g n f d k)) (m : Nat) : run g n f d (k + m) = run g n f d k := by
  induction m with
  | zero => rfl
  | succ m ih =>
    rw [← Nat.add_assoc, run_succ, ih]
    exact vis_no (h _ (Nat.mod_lt _ hn))
/-- each seat is met within a round -/
theorem met (hn : 0 < n) (k i : Nat) (hi : i < n) : ∃ j, j < n ∧ (f + (k + j)) % n = i := by
  refine ⟨(i + n - (f + k) % n) % n, Nat.mod_lt _ hn, ?_⟩
  have h1 : (f + k) % n < n := Nat.mod_lt _ hn
  rw [← Nat.add_assoc, Nat.add_mod_mod, ← Nat.mod_add_mod]
  have e2 : (f + k) % n + (i + n - (f + k) % n) = i + n := by omega
  rw [e2, Nat.add_mod_right, Nat.mod_eq_of_lt hi]
/-- no piece taken: nothing changed -/
theorem same_of_left {k m : Nat} (h : (run g n f d (k + m)).left = (run g n f d k).left) : run g n f d (k + m) = run g n f d k := by
  induction m with
  | zero => rfl
  | succ m ih =>
    have h1 := run_left_le (g := g) (n := n) (f := f) (d := d) k m
    have h2 := vis_left (g := g) (run g n f d (k + m)) ((f + (k + m)) % n)
    rw [← Nat.add_assoc, run_succ] at h
    have h3 : (run g n f d (k + m)).left = (run g n f d k).left := by omega
    have ih' := ih h3
    rw [← Nat.add_assoc, run_succ]
    by_cases w : wants g (run g n f d (k + m)) ((f + (k + m)) % n)
    · rw [vis_yes w] at h
      simp only at h
      omega
    · rw [vis_no w, ih']
theorem progress (hn : 0 < n) {k : Nat} (h : ¬ Quiet g n (run g n f d k)) : (run g n f d (k + n)).left < (run g n f d k).left := by
  apply Classical.byContradiction
  intro hh
  have hle := run_left_le (g := g) (n := n) (f := f) (d := d) k n
  have e : (run g n f d (k + n)).left = (run g n f d k).left := by omega
  apply h
  intro i hi w
  obtain ⟨j, hj, ej⟩ := met (f := f) hn k i hi
  have b1 := run_left_le (g := g) (n := n) (f := f) (d := d) k j
  have b2 := run_left_le (g := g) (n := n) (f := f) (d := d) (k + (j + 1)) (n - (j + 1))
  have e3 : k + (j + 1) + (n - (j + 1)) = k + n := by omega
  rw [e3] at b2
  have b3 := run_left_le (g := g) (n := n) (f := f) (d := d) (k + j) 1
  have b4 : (k + j) + 1 = k + (j + 1) := by omega
  rw [b4] at b3
  have s1 : run g n f d (k + j) = run g n f d k := same_of_left (by omega)
  have s2 : run g n f d (k + (j + 1)) = vis g (run g n f d (k + j)) ((f + (k + j)) % n) := rfl
  rw [s1, ej, vis_yes w] at s2
  have : (run g n f d (k + (j + 1))).left = (run g n f d k).left - 1 := by rw [s2]
  omega

/-! ### sums -/
def total : Nat → (Nat → Int) → Int
  | 0, _ => 0
  | n + 1, h => total n h + h n
theorem total_bump_out : ∀ (n : Nat) (h : Nat → Int) (i : Nat), n ≤ i → total n (bump h i) = total n h
  | 0, _, _, _ => rfl
  | n + 1, h, i, e => by
    show total n (bump h i) + bump h i n = total n h + h n
    rw [total_bump_out n h i (by omega), bump_ne h (by omega)]
theorem total_bump : ∀ (n : Nat) (h : Nat → Int) (i : Nat), i < n → total n (bump h i) = total n h + 1
  | 0, _, i, e => by omega
  | n + 1, h, i, e => by
    show total n (bump h i) + bump h i n = total n h + h n + 1
    by_cases q : i = n
    · subst q
      rw [total_bump_out _ _ _ (Nat.le_refl _), bump_self]; omega
    · rw [total_bump n h i (by omega), bump_ne h (by omega)]; omega
theorem total_zero : ∀ n : Nat, total n (fun _ => 0) = 0
  | 0 => rfl
  | n + 1 => by show total n _ + 0 = 0; rw [total_zero n]; rfl
theorem total_congr : ∀ {n : Nat} {h h' : Nat → Int}, (∀ i, i < n → h i = h' i) → total n h = total n h'
  | 0, _, _, _ => rfl
  | n + 1, h, h', e => by
    show total n h + h n = total n h' + h' n
    rw [total_congr fun i hi => e i (by omega), e n (by omega)]
theorem total_le : ∀ {n : Nat} {h h' : Nat → Int}, (∀ i, i < n → h i ≤ h' i) → total n h ≤ total n h'
  | 0, _, _, _ => Int.le_refl _
  | n + 1, h, h', e => by
    show total n h + h n ≤ total n h' + h' n
    have h1 := total_le (n := n) fun i hi => e i (by omega)
    have h2 := e n (by omega)
    omega
theorem run_sum (hn : 0 < n) (k : Nat) : total n (run g n f d k).had + (run g n f d k).left = d := by
  induction k with
  | zero => show total n (fun _ => 0) + d = d; rw [total_zero]; omega
  | succ k ih =>
    rw [run_succ]
    by_cases w : wants g (run g n f d k) ((f + k) % n)
    · rw [vis_yes w]
      show total n (bump _ _) + ((run g n f d k).left - 1) = d
      rw [total_bump n _ _ (Nat.mod_lt _ hn)]; omega
    · rw [vis_no w]; exact ih
/-! ### the rest -/
theorem left_nonneg (hn : 0 < n) (hc : ∀ i, i < n → 0 ≤ (g i).1) (hd : 0 ≤ d) (k : Nat) : 0 ≤ (run g n f d k).left := by
  induction k with
  | zero => exact hd
  | succ k ih =>
    rw [run_succ]
    by_cases w : wants g (run g n f d k) ((f + k) % n)
    · rw [vis_yes w]
      have := w.1
      have := hc _ (Nat.mod_lt (f + k) hn)
      show 0 ≤ (run g n f d k).left - 1
      omega
    · rw [vis_no w]; exact ih
instance quietDec (g : Gs) : (n : Nat) → (s : S) → Decidable (Quiet g n s)
  | 0, _ => .isTrue fun i hi => absurd hi (Nat.not_lt_zero _)
  | n + 1, s =>
    match quietDec g n s with
    | .isFalse h => .isFalse fun q => h fun i hi => q i (Nat.lt_succ_of_lt hi)
    | .isTrue h => if w : wants g s n then .isFalse fun q => q n (Nat.lt_succ_self n) w else .isTrue fun i hi => by
        by_cases e : i = n
        · rw [e]; exact w
        · exact h i (by omega)
theorem quiet_by (hn : 0 < n) (m : Nat) : Quiet g n (run g n f d (n * m)) ∨ (run g n f d (n * m)).left + m ≤ d := by
  induction m with
  | zero => right; show d + 0 ≤ d; omega
  | succ m ih =>
    rcases ih with q | q
    · left
      have := quiet_stays hn q n
      rw [Nat.mul_succ, this]; exact q
    · by_cases z : Quiet g n (run g n f d (n * m))
      · left
        have := quiet_stays hn z n
        rw [Nat.mul_succ, this]; exact z
      · right
        have := progress hn z
        rw [Nat.mul_succ]
        omega
/-- the number of visits by which it rests surely -/
def enoughVisits (n : Nat) (d : Int) : Nat := n * (d.toNat + 1)
def fin (g : Gs) (n f : Nat) (d : Int) : S := run g n f d (enoughVisits n d)
theorem fin_quiet (hn : 0 < n) (hc : ∀ i, i < n → 0 ≤ (g i).1) (hd : 0 ≤ d) : Quiet g n (fin g n f d) := by
  rcases quiet_by (g := g) (f := f) (d := d) hn (d.toNat + 1) with q | q
  · exact q
  · have := left_nonneg (f := f) hn hc hd (n * (d.toNat + 1))
    omega
theorem fin_of {k : Nat} (hn : 0 < n) (hc : ∀ i, i < n → 0 ≤ (g i).1) (hd : 0 ≤ d) (q : Quiet g n (run g n f d k)) : run g n f d k = fin g n f d := by
  have q2 := fin_quiet (f := f) hn hc hd
  unfold fin at q2 ⊢
  have e1 := quiet_stays hn q (enoughVisits n d)
  have e2 := quiet_stays hn q2 k
  rw [← e1, ← e2, Nat.add_comm]
theorem fin_eq (hn : 0 < n) (hc : ∀ i, i < n → 0 ≤ (g i).1) (hd : 0 ≤ d) {k : Nat} (hk : enoughVisits n d ≤ k) : run g n f d k = fin g n f d := by
  have q2 := fin_quiet (f := f) hn hc hd
  unfold fin at q2 ⊢
  obtain ⟨m, rfl⟩ : ∃ m, k = enoughVisits n d + m := ⟨k - enoughVisits n d, by omega⟩
  exact quiet_stays hn q2 m
end

/-! ### one piece more -/
section
variable {g : Gs} {n f : Nat} {d : Int}
/-- the run of d beside that of d + 1 -/
inductive Beside (g : Gs) (n : Nat) (s s' : S) : Prop
  | none (h1 : s'.left = s.left + 1) (h2 : s'.had = s.had)
  | some (i : Nat) (hi : i < n) (h1 : s'.left = s.left) (h2 : s'.had = bump s.had i) (h3 : s.left ≤ (g i).1)
theorem vis_beside {s s' : S} (h : Beside g n s s') (j : Nat) (hj : j < n) : Beside g n (vis g s j) (vis g s' j) := by
  rcases h with ⟨h1, h2⟩ | ⟨i, hi, h1, h2, h3⟩
  · by_cases w : wants g s j
    · have w' : wants g s' j := ⟨by have := w.1; omega, by rw [h2]; exact w.2⟩
      rw [vis_yes w, vis_yes w']
      exact .none (by simp only; omega) (by simp only; rw [h2])
    · rw [vis_no w]
      by_cases w' : wants g s' j
      · rw [vis_yes w']
        refine .some j hj (by simp only; omega) (by simp only; rw [h2]) ?_
        apply Classical.byContradiction
        intro z
        exact w ⟨by omega, by rw [← h2]; exact w'.2⟩
      · rw [vis_no w']
        exact .none h1 h2
  · by_cases e : j = i
    · subst e
      have w : ¬ wants g s j := fun z => by have := z.1; omega
      have w' : ¬ wants g s' j := fun z => by have := z.1; omega
      rw [vis_no w, vis_no w']
      exact .some j hi h1 h2 h3
    · have ej : s'.had j = s.had j := by rw [h2, bump_ne _ e]
      by_cases w : wants g s j
      · have w' : wants g s' j := ⟨by have := w.1; omega, by rw [ej]; exact w.2⟩
        rw [vis_yes w, vis_yes w']
        refine .some i hi (by simp only; omega) ?_ (by simp only; omega)
        simp only
        rw [h2]
        funext x
        unfold bump
        split <;> split <;> rfl
      · have w' : ¬ wants g s' j := fun z => w ⟨by have := z.1; omega, by rw [← ej]; exact z.2⟩
        rw [vis_no w, vis_no w']
        exact .some i hi h1 h2 h3
theorem run_beside (hn : 0 < n) (k : Nat) : Beside g n (run g n f d k) (run g n f (d + 1) k) := by
  induction k with
  | zero => exact .none rfl rfl
  | succ k ih => exact vis_beside ih _ (Nat.mod_lt _ hn)
/-- who has one more -/
theorem fin_beside (hn : 0 < n) (hc : ∀ i, i < n → 0 ≤ (g i).1) (hd : 0 ≤ d) : Beside g n (fin g n f d) (fin g n f (d + 1)) := by
  have h := run_beside (g := g) (f := f) (d := d) hn (enoughVisits n d + enoughVisits n (d + 1))
  rw [fin_eq hn hc hd (by omega), fin_eq hn hc (by omega) (by omega)] at h
  exact h
end
/-! ### whole rounds -/
section
variable {g : Gs} {n f : Nat} {d : Int}
/-- how many of the n fulfil A -/
def many (n : Nat) (A : Nat → Prop) [∀ i, Decidable (A i)] : Int := total n fun i => if A i then 1 else 0
theorem total_add : ∀ (n : Nat) (h h' : Nat → Int), total n (fun i => h i + h' i) = total n h + total n h'
  | 0, _, _ => rfl
  | n + 1, h, h' => by
    show total n _ + (h n + h' n) = (total n h + h n) + (total n h' + h' n)
    rw [total_add n h h']; omega
theorem total_mul : ∀ (n : Nat) (m : Int) (h : Nat → Int), total n (fun i => m * h i) = m * total n h
  | 0, m, _ => (Int.mul_zero m).symm
  | n + 1, m, h => by
    show total n _ + m * h n = m * (total n h + h n)
    rw [total_mul n m h, Int.mul_add]
theorem total_lt {n : Nat} {h h' : Nat → Int} (e : ∀ i, i < n → h i ≤ h' i) {j : Nat} (hj : j < n) (l : h j < h' j) : total n h < total n h' := by
  have h1 : total n (bump h j) ≤ total n h' := total_le fun i hi => by
    by_cases q : i = j
    · rw [q, bump_self]; omega
    · rw [bump_ne h q]; exact e i hi
  rw [total_bump n h j hj] at h1
  omega
theorem total_nonneg : ∀ {n : Nat} {h : Nat → Int}, (∀ i, i < n → 0 ≤ h i) → 0 ≤ total n h
  | 0, _, _ => Int.le_refl _
  | n + 1, h, e => by
    show 0 ≤ total n h + h n
    have h1 := total_nonneg (n := n) fun i hi => e i (by omega)
    have h2 := e n (by omega)
    omega
theorem seat_inj {a i j : Nat} (hij : i < j) (hj : j < n) (e : (a + i) % n = (a + j) % n) : False := by
  have h1 : (a + j - (a + i)) % n = 0 := Nat.sub_mod_eq_zero_of_mod_eq e.symm
  have h2 : a + j - (a + i) = j - i := by omega
  rw [h2, Nat.mod_eq_of_lt (by omega)] at h1
  omega
/-- one round in which all who want one take one -/
theorem one_round {k : Nat} (hn : 0 < n) (hc : ∀ i, i < n → wants g (run g n f d k) i → (g i).1 ≤ (run g n f d k).left - many n (wants g (run g n f d k))) :
    (∀ i, i < n → (run g n f d (k + n)).had i = (run g n f d k).had i + if wants g (run g n f d k) i then 1 else 0) ∧
    (run g n f d (k + n)).left = (run g n f d k).left - many n (wants g (run g n f d k)) := by
  have inv : ∀ j, j ≤ n → ∀ i, i < n → (((∃ j', j' < j ∧ (f + (k + j')) % n = i) → (run g n f d (k + j)).had i = (run g n f d k).had i + if wants g (run g n f d k) i then 1 else 0) ∧
      ((¬ ∃ j', j' < j ∧ (f + (k + j')) % n = i) → (run g n f d (k + j)).had i = (run g n f d k).had i)) := by
    intro j
    induction j with
    | zero => exact fun _ i _ => ⟨fun ⟨j', h, _⟩ => absurd h (Nat.not_lt_zero _), fun _ => rfl⟩
    | succ j ih =>
      intro hj i hi
      have ih := ih (by omega)
      have hs : (f + (k + j)) % n < n := Nat.mod_lt _ hn
      have fresh : ¬ ∃ j', j' < j ∧ (f + (k + j')) % n = (f + (k + j)) % n := fun ⟨j', h1, h2⟩ => seat_inj (n := n) (a := f + k) h1 (by omega) (by rw [Nat.add_assoc, Nat.add_assoc]; exact h2)
      have e0 := (ih _ hs).2 fresh
      have le1 : ∀ x, x < n → (run g n f d (k + j)).had x ≤ (run g n f d k).had x + if wants g (run g n f d k) x then 1 else 0 := fun x hx => by
        by_cases q : ∃ j', j' < j ∧ (f + (k + j')) % n = x
        · rw [(ih x hx).1 q]; exact Int.le_refl _
        · rw [(ih x hx).2 q]; split <;> omega
      have st : run g n f d (k + (j + 1)) = vis g (run g n f d (k + j)) ((f + (k + j)) % n) := rfl
      rw [st]
      by_cases w : wants g (run g n f d k) ((f + (k + j)) % n)
      · have lf : (g ((f + (k + j)) % n)).1 < (run g n f d (k + j)).left := by
          have s1 := run_sum (g := g) (f := f) (d := d) hn k
          have s2 := run_sum (g := g) (f := f) (d := d) hn (k + j)
          have h1 := total_lt (h := (run g n f d (k + j)).had) (h' := fun x => (run g n f d k).had x + if wants g (run g n f d k) x then 1 else 0) le1 hs (by rw [e0, if_pos w]; omega)
          rw [total_add] at h1
          have h2 := hc _ hs w
          have h3 : total n (fun x => if wants g (run g n f d k) x then (1 : Int) else 0) = many n (wants g (run g n f d k)) := rfl
          omega
        have w' : wants g (run g n f d (k + j)) ((f + (k + j)) % n) := ⟨lf, fun m e => by rw [e0]; exact w.2 m e⟩
        rw [vis_yes w']
        by_cases q : i = (f + (k + j)) % n
        · refine ⟨fun _ => ?_, fun h => absurd ⟨j, Nat.lt_succ_self j, q.symm⟩ h⟩
          show bump _ _ i = _
          rw [q, bump_self, e0, if_pos w]
        · refine ⟨fun ⟨j', h1, h2⟩ => ?_, fun h => ?_⟩
          · show bump _ _ i = _
            rw [bump_ne _ q]
            refine (ih i hi).1 ⟨j', ?_, h2⟩
            by_cases z : j' = j
            · rw [z] at h2; exact absurd h2.symm q
            · omega
          · show bump _ _ i = _
            rw [bump_ne _ q]
            exact (ih i hi).2 fun ⟨j', h1, h2⟩ => h ⟨j', by omega, h2⟩
      · have w' : ¬ wants g (run g n f d (k + j)) ((f + (k + j)) % n) := no_stays_run j w
        rw [vis_no w']
        refine ⟨fun ⟨j', h1, h2⟩ => ?_, fun h => ?_⟩
        · by_cases z : j' = j
          · rw [z] at h2
            rw [← h2, e0, if_neg w]; omega
          · exact (ih i hi).1 ⟨j', by omega, h2⟩
        · exact (ih i hi).2 fun ⟨j', h1, h2⟩ => h ⟨j', by omega, h2⟩
  have hh : ∀ i, i < n → (run g n f d (k + n)).had i = (run g n f d k).had i + if wants g (run g n f d k) i then 1 else 0 := fun i hi => by
    obtain ⟨j, hj, e⟩ := met (f := f) hn k i hi
    exact (inv n (Nat.le_refl _) i hi).1 ⟨j, hj, e⟩
  refine ⟨hh, ?_⟩
  have s1 := run_sum (g := g) (f := f) (d := d) hn k
  have s2 := run_sum (g := g) (f := f) (d := d) hn (k + n)
  rw [total_congr hh, total_add] at s2
  have h3 : total n (fun x => if wants g (run g n f d k) x then (1 : Int) else 0) = many n (wants g (run g n f d k)) := rfl
  omega
theorem many_congr {n : Nat} {A B : Nat → Prop} [∀ i, Decidable (A i)] [∀ i, Decidable (B i)] (h : ∀ i, i < n → (A i ↔ B i)) : many n A = many n B :=
  total_congr fun i hi => by
    by_cases a : A i
    · rw [if_pos a, if_pos ((h i hi).mp a)]
    · rw [if_neg a, if_neg fun b => a ((h i hi).mpr b)]
theorem many_nonneg {n : Nat} {A : Nat → Prop} [∀ i, Decidable (A i)] : 0 ≤ many n A := total_nonneg fun i _ => by split <;> omega
theorem many_pos {n : Nat} {A : Nat → Prop} [∀ i, Decidable (A i)] {i : Nat} (hi : i < n) (h : A i) : 1 ≤ many n A := by
  have := total_lt (n := n) (h := fun _ => 0) (h' := fun i => if A i then 1 else 0) (fun i _ => by split <;> omega) hi (by rw [if_pos h]; omega)
  rw [total_zero] at this
  exact this
/-- m rounds in which just those who want one now take one each -/
theorem skip {k : Nat} (hn : 0 < n) (m : Nat)
    (hc : ∀ i, i < n → wants g (run g n f d k) i → (g i).1 ≤ (run g n f d k).left - m * many n (wants g (run g n f d k)))
    (he : ∀ i, i < n → wants g (run g n f d k) i → ∀ e, (g i).2 = some e → (run g n f d k).had i + m ≤ e) :
    (∀ i, i < n → (run g n f d (k + m * n)).had i = (run g n f d k).had i + if wants g (run g n f d k) i then (m : Int) else 0) ∧
    (run g n f d (k + m * n)).left = (run g n f d k).left - m * many n (wants g (run g n f d k)) := by
  have go : ∀ r, r ≤ m → (∀ i, i < n → (run g n f d (k + r * n)).had i = (run g n f d k).had i + if wants g (run g n f d k) i then (r : Int) else 0) ∧
      (run g n f d (k + r * n)).left = (run g n f d k).left - r * many n (wants g (run g n f d k)) := by
    intro r
    induction r with
    | zero =>
      intro _
      refine ⟨fun i _ => ?_, ?_⟩
      · rw [Nat.zero_mul, Nat.add_zero]; split <;> simp
      · rw [Nat.zero_mul, Nat.add_zero]; simp
    | succ r ih =>
      intro hr
      obtain ⟨ih1, ih2⟩ := ih (by omega)
      have hN := many_nonneg (n := n) (A := wants g (run g n f d k))
      have same : ∀ i, i < n → (wants g (run g n f d (k + r * n)) i ↔ wants g (run g n f d k) i) := fun i hi => by
        refine ⟨fun w => Classical.byContradiction fun z => no_stays_run (r * n) z w, fun w => ?_⟩
        have h1 := hc i hi w
        have h2 := many_pos hi w
        have h3 : ((r : Int) + 1) * many n (wants g (run g n f d k)) ≤ (m : Int) * many n (wants g (run g n f d k)) := Int.mul_le_mul_of_nonneg_right (by omega) hN
        rw [Int.add_mul, Int.one_mul] at h3
        refine ⟨by rw [ih2]; omega, fun e ee => ?_⟩
        rw [ih1 i hi, if_pos w]
        have := he i hi w e ee
        omega
      have mm := many_congr (A := wants g (run g n f d (k + r * n))) (B := wants g (run g n f d k)) same
      have o := one_round (g := g) (f := f) (d := d) (k := k + r * n) hn (fun i hi w => by
        have w0 := (same i hi).mp w
        have h1 := hc i hi w0
        have h3 : ((r : Int) + 1) * many n (wants g (run g n f d k)) ≤ (m : Int) * many n (wants g (run g n f d k)) := Int.mul_le_mul_of_nonneg_right (by omega) hN
        rw [Int.add_mul, Int.one_mul] at h3
        rw [mm, ih2]
        omega)
      have ek : k + (r + 1) * n = k + r * n + n := by rw [Nat.succ_mul, Nat.add_assoc]
      rw [ek]
      refine ⟨fun i hi => ?_, ?_⟩
      · rw [o.1 i hi, ih1 i hi]
        by_cases w : wants g (run g n f d k) i
        · rw [if_pos w, if_pos w, if_pos ((same i hi).mpr w)]
          push_cast
          omega
        · rw [if_neg w, if_neg w, if_neg fun z => w ((same i hi).mp z)]; omega
      · rw [o.2, mm, ih2]
        push_cast
        rw [Int.add_mul, Int.one_mul]
        omega
  exact go m (Nat.le_refl _)
end
end D
namespace D
/-! ### the shares as lists -/
abbrev gs (t : List (Int × Option Int)) : Gs := fun i => t.getD i (0, none)
def hadL (n : Nat) (h : Nat → Int) : List Int := (List.range n).map h
theorem hadL_len (n : Nat) (h : Nat → Int) : (hadL n h).length = n := by simp [hadL]
theorem hadL_get {n : Nat} (h : Nat → Int) {i : Nat} (hi : i < n) : (hadL n h)[i]? = some (h i) := by simp [hadL, hi]
theorem hadL_congr {n : Nat} {h h' : Nat → Int} (e : ∀ i, i < n → h i = h' i) : hadL n h = hadL n h' :=
  List.map_congr_left fun i hi => e i (List.mem_range.mp hi)
theorem hadL_inj {n : Nat} {h h' : Nat → Int} (e : hadL n h = hadL n h') {i : Nat} (hi : i < n) : h i = h' i := by
  have := hadL_get h hi
  rw [e, hadL_get h' hi] at this
  exact (Option.some.inj this).symm
theorem hadL_set {n : Nat} (h : Nat → Int) {i : Nat} (hi : i < n) (v : Int) : (hadL n h).set i v = hadL n (fun j => if j = i then v else h j) := by
  apply List.ext_getElem?
  intro j
  by_cases hj : j < n
  · rw [hadL_get _ hj]
    by_cases e : j = i
    · subst e
      rw [List.getElem?_set_self (by rw [hadL_len]; exact hi), if_pos rfl]
    · rw [List.getElem?_set_ne (Ne.symm e), hadL_get _ hj, if_neg e]
  · rw [List.getElem?_eq_none (by rw [List.length_set, hadL_len]; omega), List.getElem?_eq_none (by rw [hadL_len]; omega)]
theorem hadL_bump {n : Nat} (h : Nat → Int) {i : Nat} (hi : i < n) : (hadL n h).set i (h i + 1) = hadL n (bump h i) := by
  rw [hadL_set h hi]
  refine hadL_congr fun j _ => ?_
  unfold bump
  by_cases e : j = i
  · rw [if_pos e, if_pos e, e]
  · rw [if_neg e, if_neg e]
theorem hadL_zero (n : Nat) : hadL n (fun _ => 0) = List.replicate n 0 := by
  apply List.ext_getElem?
  intro j
  by_cases hj : j < n
  · rw [hadL_get _ hj, List.getElem?_replicate, if_pos hj]
  · rw [List.getElem?_eq_none (by rw [hadL_len]; omega), List.getElem?_replicate, if_neg hj]
theorem total_hadL : ∀ (n : Nat) (h : Nat → Int), (hadL n h).sum = total n h
  | 0, _ => rfl
  | n + 1, h => by
    show ((List.range (n + 1)).map h).sum = total n h + h n
    rw [List.range_succ, List.map_append, List.sum_append, ← total_hadL n h]
    simp [hadL]
/-- the seats that want one, in order -/
def act (g : Gs) (n : Nat) (s : S) : List Nat := (List.range n).filter fun i => decide (wants g s i)
theorem mem_act {g : Gs} {n : Nat} {s : S} {i : Nat} : i ∈ act g n s ↔ i < n ∧ wants g s i := by
  unfold act
  rw [List.mem_filter, List.mem_range, decide_eq_true_eq]
theorem act_nil {g : Gs} {n : Nat} {s : S} : act g n s = [] ↔ Quiet g n s := by
  constructor
  · intro e i hi w
    have : i ∈ act g n s := mem_act.mpr ⟨hi, w⟩
    rw [e] at this
    cases this
  · intro q
    cases e : act g n s with
    | nil => rfl
    | cons a l =>
      have : a ∈ act g n s := by rw [e]; exact List.mem_cons_self
      exact absurd (mem_act.mp this).2 (q a (mem_act.mp this).1)
theorem act_nodup (g : Gs) (n : Nat) (s : S) : (act g n s).Nodup := List.nodup_range.filter _
theorem act_le (g : Gs) (n : Nat) (s : S) : (act g n s).length ≤ n := by
  have := List.length_filter_le (fun i => decide (wants g s i)) (List.range n)
  rw [List.length_range] at this
  exact this
theorem act_many (g : Gs) (n : Nat) (s : S) : ((act g n s).length : Int) = many n (wants g s) := by
  unfold act
  induction n with
  | zero => rfl
  | succ n ih =>
    rw [List.range_succ, List.filter_append, List.length_append]
    show _ = many n (wants g s) + if wants g s n then 1 else 0
    rw [← ih]
    by_cases w : wants g s n
    · simp [w]
    · simp [w]
/-- the list behind «for seat in some: had[seat] += many», after j of some -/
def hadOn (h : Nat → Int) (m : Int) (l : List Nat) : Nat → Int := fun i => if i ∈ l then h i + m else h i
theorem hadOn_nil (h : Nat → Int) (m : Int) : hadOn h m [] = h := by
  funext i
  simp [hadOn]
theorem hadOn_snoc {n : Nat} {h : Nat → Int} {m : Int} {l : List Nat} {i : Nat} (hi : i < n) (hl : i ∉ l) : (hadL n (hadOn h m l)).set i (hadOn h m l i + m) = hadL n (hadOn h m (l ++ [i])) := by
  rw [hadL_set _ hi]
  refine hadL_congr fun j _ => ?_
  unfold hadOn
  by_cases e : j = i
  · subst e
    rw [if_pos rfl, if_neg hl, if_pos (by simp)]
  · rw [if_neg e]
    by_cases z : j ∈ l
    · rw [if_pos z, if_pos (by simp [z])]
    · rw [if_neg z, if_neg (by simp [z, e])]
theorem mem_take_at {l : List Nat} (nd : l.Nodup) {j i : Nat} (h : l[j]? = some i) : i ∉ l.take j := by
  intro z
  obtain ⟨j', h1, h2⟩ := List.mem_iff_getElem.mp z
  rw [List.length_take] at h1
  obtain ⟨h3, h4⟩ := List.getElem?_eq_some_iff.mp h
  rw [List.getElem_take] at h2
  have := (List.getElem_inj nd).mp (h2.trans h4.symm)
  omega
end D
namespace Lp
open PySem PySem.Spec PyProof.Rows L2
/-! ### callable names -/
/-- the module's name x may be called, with the promise sp, at level k -/
structure Cal (P : Program) (w : World) (K : PySem.W.Frag) (mg : Str → Option Value) (base : Heap) (k : Nat) (x : Str) (sp : Sp) : Prop where
  ex : ∃ (f : Addr) (fd : FuncData) (ps : List Str), FnOk P w K mg base L2.CX0 k f fd ps sp ∧ mg x = some (.ref f) ∧ PySem.W.keepIn K (.ref f) = true ∧ Binds K fd ps []
section
variable {X : Cx} {k j : Nat} {x : Str} {sp : Sp} {p pos : Pos} {e : Expr} {es : List Expr} {t : TA}
theorem pe_g (c : Cal X.prog X.w X.K X.mg X.base k x sp) (hr : Room j X.A) (ha : PA X (e :: es) t) (hk : k ≤ j := by decide) (hg : Gl X x := by rfl)
    (hdb : (x == ("__debug__" : Str)) = false := by decide) (he : starEach (e :: es) X.env = (false, eval e X.env) :: starEach es X.env := by rfl) (hpl : (backTo pos (starEach es X.env)).any (·.1) = false := by rfl) :
    PE X (.Call (.Name x p) (e :: es) [] pos) (tCall sp [] L2.E0 t) := by
  obtain ⟨f, fd, ps, F, hm, kp, b⟩ := c.ex
  exact pe_call F (hr.mono hk) hg hm kp b .nil L2.pass0 ha hdb he hpl
end
/-- the method m of the class at C -/
structure Met (P : Program) (w : World) (K : PySem.W.Frag) (mg : Str → Option Value) (base : Heap) (k : Nat) (C : Addr) (m : Str) (sp : Sp) : Prop where
  ex : ∃ (f : Addr) (fd : FuncData) (ps : List Str), Cls K C ∧ Meth K C m f ∧ FnOk P w K mg base L2.CX0 k f fd ps sp ∧ Binds K fd ps []
/-- the class x at C may be made; sp: its __init__ -/
structure Mak (P : Program) (w : World) (K : PySem.W.Frag) (mg : Str → Option Value) (base : Heap) (k : Nat) (x : Str) (C : Addr) (sp : Sp) : Prop where
  ex : ∃ (f : Addr) (fd : FuncData) (ps : List Str), Mk K C f ∧ FnOk P w K mg base L2.CX0 k f fd ps sp ∧ mg x = some (.ref C) ∧ Binds K fd ps []
section
variable {X : Cx} {k j : Nat} {C : Addr} {x m : Str} {sp : Sp} {p pos apos : Pos} {e o : Expr} {es : List Expr} {ta : TE} {t : TA}
theorem pe_new (c : Mak X.prog X.w X.K X.mg X.base k x C sp) (hr : Room j X.A) (ha : PA X (e :: es) t) (hk : k + 1 ≤ j := by decide) (hg : Gl X x := by rfl)
    (hdb : (x == ("__debug__" : Str)) = false := by decide) (he : starEach (e :: es) X.env = (false, eval e X.env) :: starEach es X.env := by rfl) (hpl : (backTo pos (starEach es X.env)).any (·.1) = false := by rfl) :
    PE X (.Call (.Name x p) (e :: es) [] pos) (tMake C sp [] L2.E0 t) := by
  obtain ⟨f, fd, ps, M, F, hm, b⟩ := c.ex
  exact pe_make M F (hr.mono hk) hg hm b .nil L2.pass0 ha hdb he hpl
theorem pe_me {pl : Sem Bool} (c : Met X.prog X.w X.K X.mg X.base k C m sp) (hr : Room j X.A) (he : PE X o ta) (ha : PA X (e :: es) t) (hk : k ≤ j := by decide)
    (hst : starEach (e :: es) X.env = (false, eval e X.env) :: starEach es X.env := by rfl) (hpl : (backTo pos (starEach es X.env)).any (·.1) = false := by rfl)
    (ht : eval (.Call (.Attribute o m apos) (e :: es) [] pos) X.env = (eval o X.env >>= fun ov => standAt apos.atName >>= fun _ => holding [ov] (getMethod ov m pl) >>= fun q =>
      callWith pos q.1 q.2 (backTo pos (starEach (e :: es) X.env)) (backToKw pos (keywordEach [] X.env))) := by rfl) :
    PE X (.Call (.Attribute o m apos) (e :: es) [] pos) (tMeth C m sp [] L2.E0 ta t) := by
  obtain ⟨f, fd, ps, hc, hm, F, b⟩ := c.ex
  exact pe_meth (pl := pl) he hc hm F (hr.mono hk) b .nil L2.pass0 ha hst hpl ht
theorem pe_me0 {pl : Sem Bool} (c : Met X.prog X.w X.K X.mg X.base k C m sp) (hr : Room j X.A) (he : PE X o ta) (hk : k ≤ j := by decide)
    (ht : eval (.Call (.Attribute o m apos) [] [] pos) X.env = (eval o X.env >>= fun ov => standAt apos.atName >>= fun _ => holding [ov] (getMethod ov m pl) >>= fun q =>
      callWith pos q.1 q.2 (backTo pos (starEach [] X.env)) (backToKw pos (keywordEach [] X.env))) := by rfl) :
    PE X (.Call (.Attribute o m apos) [] [] pos) (tMeth C m sp [] L2.E0 ta tNil) := by
  obtain ⟨f, fd, ps, hc, hm, F, b⟩ := c.ex
  exact pe_meth0 (pl := pl) he hc hm F (hr.mono hk) b .nil L2.pass0 ht
end
/-- the module's name x, a def of n parameters and the keyword-only one «first», which is 0 where it lacks -/
structure CalK (P : Program) (w : World) (K : PySem.W.Frag) (mg : Str → Option Value) (base : Heap) (k n : Nat) (x : Str) (sp : Sp) : Prop where
  ex : ∃ (f : Addr) (fd : FuncData) (ps : List Str), FnOk P w K mg base L2.CX0 k f fd ps sp ∧ mg x = some (.ref f) ∧ PySem.W.keepIn K (.ref f) = true ∧
    (∃ ds, Vals [.int 0] ds ∧ Binds K fd ps ds) ∧ KBn K fd ps n (["first"] : List Str) (fun us ws => us ++ ws) (fun vs zs => vs ++ zs)
section
variable {X : Cx} {k j n : Nat} {x : Str} {sp : Sp} {p pos : Pos} {e : Expr} {es : List Expr} {kws : List Keyword} {t tk : TA}
/-- without the keyword -/
theorem pe_gd (c : CalK X.prog X.w X.K X.mg X.base k n x sp) (hr : Room j X.A) (ha : PA X (e :: es) t) (hk : k ≤ j := by decide) (hg : Gl X x := by rfl)
    (hdb : (x == ("__debug__" : Str)) = false := by decide) (he : starEach (e :: es) X.env = (false, eval e X.env) :: starEach es X.env := by rfl) (hpl : (backTo pos (starEach es X.env)).any (·.1) = false := by rfl) :
    PE X (.Call (.Name x p) (e :: es) [] pos) (tCall sp [.int 0] L2.E0 t) := by
  obtain ⟨f, fd, ps, F, hm, kp, ⟨ds, vd, b⟩, _⟩ := c.ex
  exact pe_call F (hr.mono hk) hg hm kp b vd L2.pass0 ha hdb he hpl
/-- with it -/
theorem pe_gk (c : CalK X.prog X.w X.K X.mg X.base k n x sp) (hr : Room j X.A) (ha : PA X (e :: es) t) (hkw : PK X kws tk) (hk : k ≤ j := by decide) (hg : Gl X x := by rfl)
    (hall : (backToKw pos (keywordEach kws X.env)).all (·.1.isSome) = true := by rfl) (hks : (backToKw pos (keywordEach kws X.env)).filterMap (·.1) = (["first"] : List Str) := by rfl)
    (hdb : (x == ("__debug__" : Str)) = false := by decide) (he : starEach (e :: es) X.env = (false, eval e X.env) :: starEach es X.env := by rfl)
    (hpl : ((backTo pos (starEach (e :: es) X.env)).any (·.1) || (backToKw pos (keywordEach kws X.env)).any (·.1.isNone)) = false := by rfl) :
    PE X (.Call (.Name x p) (e :: es) kws pos) (tCallN n 1 sp (fun vs zs => vs ++ zs) L2.E0 t tk) := by
  obtain ⟨f, fd, ps, F, hm, kp, _, kb⟩ := c.ex
  exact pe_callN F (hr.mono hk) hg hm kp kb L2.pass0 ha hkw hall hks hdb he hpl
end
/-! ### what the top has written -/
/-- a def without defaults under its name -/
structure DefIn (K : PySem.W.Frag) (mg : Str → Option Value) (x : Str) (st : Stmt) : Prop where
  ex : ∃ (f : Addr) (fd : FuncData), L2.Fun K x x st f fd ∧ mg x = some (.ref f)
/-- a def whose one keyword-only parameter has a default -/
structure DefKw (K : PySem.W.Frag) (mg : Str → Option Value) (x : Str) (st : Stmt) : Prop where
  ex : ∃ (f : Addr) (fd : FuncData), FunD K x x (defArgs st) (defBody st) (defScope st) [] [("first", .int 0)] f fd ∧ mg x = some (.ref f)
/-- a method of the class at C -/
structure MethIn (K : PySem.W.Frag) (C : Addr) (m qual : Str) (st : Stmt) : Prop where
  ex : ∃ (f : Addr) (fd : FuncData), L2.Fun K m qual st f fd ∧ Meth K C m f
theorem defIn_mk {K : PySem.W.Frag} {h : Heap} {mg : Str → Option Value} {x : Str} {st : Stmt} {f : Addr} {oc : Value} {od an : Option Addr} {osl : Array (Option Value)} {kV doc pm cdv ct : Value} (X : K.In h) (G : h.Ns mainGlobals mg)
    (a : PySem.W.nsIn K mainGlobals x = some (some (.ref f)))
    (l : K.lookup f = some ⟨oc, od, .func (PySem.W.fnOf x x (defArgs st) (defBody st) (defScope st) .none kV doc pm an cdv ct), osl⟩)
    (c : PySem.W.codeIn K cdv x = true) (k : PySem.W.keepIn K (.ref f) = true) : DefIn K mg x st :=
  ⟨f, _, fun_mk l c k, PySem.W.mg_of X G a⟩
theorem defKw_mk {K : PySem.W.Frag} {h : Heap} {mg : Str → Option Value} {x : Str} {st : Stmt} {f D : Addr} {oc : Value} {od an : Option Addr} {osl : Array (Option Value)} {doc pm cdv ct u : Value} (X : K.In h) (G : h.Ns mainGlobals mg)
    (a : PySem.W.nsIn K mainGlobals x = some (some (.ref f)))
    (l : K.lookup f = some ⟨oc, od, .func (PySem.W.fnOf x x (defArgs st) (defBody st) (defScope st) .none (.ref D) doc pm an cdv ct), osl⟩)
    (d : PySem.W.nsIn K D "first" = some (some u)) (r : RelV (.int 0) u)
    (c : PySem.W.codeIn K cdv x = true) (k : PySem.W.keepIn K (.ref f) = true) : DefKw K mg x st :=
  ⟨f, _, ⟨⟨oc, od, _, _, doc, pm, an, cdv, ct, osl, rfl, l, c, .inl ⟨rfl, rfl⟩, .inr ⟨D, rfl, fun q hq => by
    rcases List.mem_cons.mp hq with e | hq
    · rw [e]; exact ⟨_, d, r⟩
    · cases hq⟩⟩, k⟩, PySem.W.mg_of X G a⟩
theorem methIn_mk {K : PySem.W.Frag} {C : Addr} {m qual : Str} {st : Stmt} {f : Addr} {oc : Value} {od an : Option Addr} {osl : Array (Option Value)} {kV doc pm cdv ct : Value}
    (a : PySem.W.findIn K (.ref C) m = some (some (.ref f)))
    (l : K.lookup f = some ⟨oc, od, .func (PySem.W.fnOf m qual (defArgs st) (defBody st) (defScope st) .none kV doc pm an cdv ct), osl⟩)
    (i : PySem.W.isFn K (.ref f) = true) (c : PySem.W.codeIn K cdv qual = true) (k : PySem.W.keepIn K (.ref f) = true) : MethIn K C m qual st :=
  ⟨f, _, fun_mk l c k, ⟨a, i, k⟩⟩
/-- the built-in names are the built-in ones -/
structure Bls (mg : Str → Option Value) : Prop where
  isinstance : mg "isinstance" = none
  int : mg "int" = none
  bool : mg "bool" = none
  tuple : mg "tuple" = none
  list : mg "list" = none
  len : mg "len" = none
  all : mg "all" = none
  any : mg "any" = none
  max : mg "max" = none
  min : mg "min" = none
  sum : mg "sum" = none
  range : mg "range" = none
  enumerate : mg "enumerate" = none
  zip : mg "zip" = none
  sorted : mg "sorted" = none
  repr : mg "repr" = none
/-! ### data -/
def tyD : PyData → String
  | .none => "NoneType"
  | .bool _ => "bool"
  | .int _ => "int"
  | .str _ => "str"
  | .list _ => "list"
  | .tuple _ => "tuple"
  | .dict _ => "dict"
theorem tyx {K : PySem.W.Frag} {H : Hp} {v : V} {d : PyData} (h : Dp K H v d) : TyX K H v (.type (tyD d)) := by
  cases h with
  | non => exact .base .non
  | bl b => exact .base (.bl b)
  | int i => exact .base (.int i)
  | str x => exact .base (.str x)
  | lst hs _ =>
    rcases hs with (h | ⟨o, h⟩) | ⟨o, its, n, h, c, _⟩
    · exact .base (.lst h)
    · exact .base (.frz h)
    · exact .kList h c
  | tup hs _ =>
    rcases hs with (h | ⟨o, h⟩) | ⟨o, its, n, h, c, _⟩
    · exact .base (.tup h)
    · exact .fTuple h
    · exact .kTuple h c
/-- isinstance(x, T) of data, T a built-in type -/
def isIntD : PyData → Bool
  | .int _ => true
  | .bool _ => true
  | _ => false
def isBoolD : PyData → Bool
  | .bool _ => true
  | _ => false
def isTupD : PyData → Bool
  | .tuple _ => true
  | _ => false
def isLstD : PyData → Bool
  | .list _ => true
  | _ => false
theorem kit_i (K : PySem.W.Frag) (d : PyData) : PySem.W.kitOne K (.type (tyD d)) (.type "int") = some (isIntD d) := by
  cases d with
  | none => exact kit_ty (show kitB "NoneType" "int" = some false by decide +kernel)
  | bool _ => exact kit_ty (show kitB "bool" "int" = some true by decide +kernel)
  | int _ => exact kit_ty (show kitB "int" "int" = some true by decide +kernel)
  | str _ => exact kit_ty (show kitB "str" "int" = some false by decide +kernel)
  | list _ => exact kit_ty (show kitB "list" "int" = some false by decide +kernel)
  | tuple _ => exact kit_ty (show kitB "tuple" "int" = some false by decide +kernel)
  | dict _ => exact kit_ty (show kitB "dict" "int" = some false by decide +kernel)
theorem kit_b (K : PySem.W.Frag) (d : PyData) : PySem.W.kitOne K (.type (tyD d)) (.type "bool") = some (isBoolD d) := by
  cases d with
  | none => exact kit_ty (show kitB "NoneType" "bool" = some false by decide +kernel)
  | bool _ => exact kit_ty (show kitB "bool" "bool" = some true by decide +kernel)
  | int _ => exact kit_ty (show kitB "int" "bool" = some false by decide +kernel)
  | str _ => exact kit_ty (show kitB "str" "bool" = some false by decide +kernel)
  | list _ => exact kit_ty (show kitB "list" "bool" = some false by decide +kernel)
  | tuple _ => exact kit_ty (show kitB "tuple" "bool" = some false by decide +kernel)
  | dict _ => exact kit_ty (show kitB "dict" "bool" = some false by decide +kernel)
theorem kit_t (K : PySem.W.Frag) (d : PyData) : PySem.W.kitOne K (.type (tyD d)) (.type "tuple") = some (isTupD d) := by
  cases d with
  | none => exact kit_ty (show kitB "NoneType" "tuple" = some false by decide +kernel)
  | bool _ => exact kit_ty (show kitB "bool" "tuple" = some false by decide +kernel)
  | int _ => exact kit_ty (show kitB "int" "tuple" = some false by decide +kernel)
  | str _ => exact kit_ty (show kitB "str" "tuple" = some false by decide +kernel)
  | list _ => exact kit_ty (show kitB "list" "tuple" = some false by decide +kernel)
  | tuple _ => exact kit_ty (show kitB "tuple" "tuple" = some true by decide +kernel)
  | dict _ => exact kit_ty (show kitB "dict" "tuple" = some false by decide +kernel)
theorem kit_l (K : PySem.W.Frag) (d : PyData) : PySem.W.kitOne K (.type (tyD d)) (.type "list") = some (isLstD d) := by
  cases d with
  | none => exact kit_ty (show kitB "NoneType" "list" = some false by decide +kernel)
  | bool _ => exact kit_ty (show kitB "bool" "list" = some false by decide +kernel)
  | int _ => exact kit_ty (show kitB "int" "list" = some false by decide +kernel)
  | str _ => exact kit_ty (show kitB "str" "list" = some false by decide +kernel)
  | list _ => exact kit_ty (show kitB "list" "list" = some true by decide +kernel)
  | tuple _ => exact kit_ty (show kitB "tuple" "list" = some false by decide +kernel)
  | dict _ => exact kit_ty (show kitB "dict" "list" = some false by decide +kernel)
section
variable {X : Cx} {a b : Expr} {ta tb : TE} {p pos : Pos}
/-- isinstance(a, b) -/
theorem pe_isi (B : Bls X.mg) (ha : PE X a ta) (hb : PE X b tb) (hg : Gl X "isinstance" := by rfl) (he : starEach [a, b] X.env = (false, eval a X.env) :: starEach [b] X.env := by rfl) (h2 : starEach [b] X.env = (false, eval b X.env) :: starEach [] X.env := by rfl)
    (hpl : (backTo pos (starEach [b] X.env)).any (·.1) = false := by rfl) : PE X (.Call (.Name "isinstance" p) [a, b] [] pos) (tCB (rIsi X.K) (tCons ta (tCons tb tNil))) :=
  pe_callB call_isi hg B.isinstance (by decide +kernel) (pa_cons ha (pa_cons hb pa_nil h2) he) (by decide) (by decide) he hpl
/-- the name of a built-in type as a value -/
theorem pe_tInt (B : Bls X.mg) (hg : Gl X "int" := by rfl) : PE X (.Name "int" pos) (tC (.ty "int")) := pe_bltn hg B.int (by decide +kernel) rfl
theorem pe_tBool (B : Bls X.mg) (hg : Gl X "bool" := by rfl) : PE X (.Name "bool" pos) (tC (.ty "bool")) := pe_bltn hg B.bool (by decide +kernel) rfl
theorem pe_tTuple (B : Bls X.mg) (hg : Gl X "tuple" := by rfl) : PE X (.Name "tuple" pos) (tC (.ty "tuple")) := pe_bltn hg B.tuple (by decide +kernel) rfl
theorem pe_tList (B : Bls X.mg) (hg : Gl X "list" := by rfl) : PE X (.Name "list" pos) (tC (.ty "list")) := pe_bltn hg B.list (by decide +kernel) rfl
/-- len(a), a a list or a tuple -/
theorem pe_len (B : Bls X.mg) (ha : PE X a ta) (hg : Gl X "len" := by rfl) (he : starEach [a] X.env = (false, eval a X.env) :: starEach [] X.env := by rfl)
    (hpl : (backTo pos (starEach [] X.env)).any (·.1) = false := by rfl) : PE X (.Call (.Name "len" p) [a] [] pos) (tCB (fun xs H Q => ∃ p ys, xs = [.ref p] ∧ (SqL X.K H p ys ∨ SqT X.K H p ys) ∧ Q (.int ys.length) H) (tCons ta tNil)) :=
  pe_callB call_len_seq hg B.len PySem.boot_len (pa_cons ha pa_nil he) (by decide) (by decide) he hpl
end
/-! ### rules of one's own -/
def rGetL (K : PySem.W.Frag) : V → V → Hp → VK → Prop := fun o i H Q => ∃ p xs k v, o = .ref p ∧ i = .int k ∧ SqL K H p xs ∧ 0 ≤ k ∧ xs[k.toNat]? = some v ∧ Q v H
theorem get_list {X : Cx} : PGet X (rGetL X.K) := by
  intro pins s σ H o i ov iv Q I ro ri h
  obtain ⟨p, xs, k, v, rfl, rfl, hq, h0, hx, q⟩ := h
  cases ro
  obtain ⟨t, rfl⟩ := ri
  obtain ⟨its, r, pl, hz⟩ := I.list hq
  obtain ⟨u, eu, ru⟩ := r.get hx
  have hn := line63
  have hlt := (List.getElem?_eq_some_iff.mp hx).1
  exact wpAny_getItem_list pl.isList h0 (by omega) (by simpa using eu) ⟨v, H, I, ru, q⟩
/-! ### heaps -/
theorem same_upd {H : Hp} {p : Addr} {o : HO} (hp : H p = none) : Same H (upd H p o) := fun b u e => by
  rw [upd_ne (ne_of_none e hp)]
  exact e
theorem Same.sqt {K : PySem.W.Frag} {H H' : Hp} {a : Addr} {xs : List V} (e : Same H H') (h : SqT K H a xs) : SqT K H' a xs := by
  rcases h with (h | ⟨o, h⟩) | h
  · exact .inl (.inl (e _ _ h))
  · exact .inl (.inr ⟨o, e _ _ h⟩)
  · exact .inr h
theorem ints_get {ns : List Int} {i : Nat} {y : V} (h : (ns.map V.int)[i]? = some y) : ∃ n, ns[i]? = some n ∧ y = .int n := by
  rw [List.getElem?_map] at h
  cases e : ns[i]? with
  | none => rw [e] at h; cases h
  | some n => rw [e] at h; exact ⟨n, rfl, (Option.some.inj h).symm⟩
theorem map_at {α : Type} {f : α → V} {l : List α} {i : Nat} {a : α} (h : l[i]? = some a) : (l.map f)[i]? = some (f a) := by
  rw [List.getElem?_map, h]
  rfl
end Lp
namespace Lp
open PySem PySem.Spec PyProof.Rows L2
/-! ### == and != of lists of ints, of pairs, of None -/
def flatD : PyData → Bool
  | .none => true
  | .bool _ => true
  | .int _ => true
  | _ => false
theorem flat_lay : ∀ {d : PyData}, flatD d = true → d.canLay0 = true ∧ d.depth = 0
  | .none, _ => ⟨by simp only [PyData.canLay0], by simp only [PyData.depth]⟩
  | .bool _, _ => ⟨by simp only [PyData.canLay0], by simp only [PyData.depth]⟩
  | .int _, _ => ⟨by simp only [PyData.canLay0], by simp only [PyData.depth]⟩
  | .str _, h => by cases h
  | .list _, h => by cases h
  | .tuple _, h => by cases h
  | .dict _, h => by cases h
theorem flats_lay : ∀ {ds : List PyData}, ds.all flatD = true → PyData.canLayAll0 ds = true ∧ PyData.depthAll ds = 0
  | [], _ => ⟨by simp only [PyData.canLayAll0], by simp only [PyData.depthAll]⟩
  | d :: ds, h => by
    rw [List.all_cons, Bool.and_eq_true] at h
    obtain ⟨h1, h2⟩ := flat_lay h.1
    obtain ⟨h3, h4⟩ := flats_lay h.2
    refine ⟨?_, ?_⟩
    · simp only [PyData.canLayAll0, h1, h3]; rfl
    · simp only [PyData.depthAll, h2, h4]; rfl
theorem shaped_flat {d : PyData} (h : flatD d = true) : SeqAt.shaped d = true := by
  obtain ⟨h1, h2⟩ := flat_lay h
  unfold SeqAt.shaped
  rw [h1, h2]
  rfl
theorem shaped_list {ds : List PyData} (h : ds.all flatD = true) : SeqAt.shaped (.list ds) = true := by
  obtain ⟨h1, h2⟩ := flats_lay h
  unfold SeqAt.shaped
  simp only [PyData.canLay0, PyData.depth, h1, h2]
  rfl
theorem shaped_tup {ds : List PyData} (h : ds.all flatD = true) : SeqAt.shaped (.tuple ds) = true := by
  obtain ⟨h1, h2⟩ := flats_lay h
  unfold SeqAt.shaped
  simp only [PyData.canLay0, PyData.depth, h1, h2]
  rfl
def intsD (ns : List Int) : PyData := .list (ns.map .int)
theorem ints_flat (ns : List Int) : (ns.map PyData.int).all flatD = true := by
  rw [List.all_map]
  exact List.all_eq_true.mpr fun _ _ => rfl
theorem shaped_ints (ns : List Int) : SeqAt.shaped (intsD ns) = true := shaped_list (ints_flat ns)
theorem eqvAll_ints : ∀ a b : List Int, PyData.eqvAll (a.map .int) (b.map .int) = decide (a = b)
  | [], [] => by simp [PyData.eqvAll]
  | [], _ :: _ => by simp [PyData.eqvAll]
  | _ :: _, [] => by simp [PyData.eqvAll]
  | x :: a, y :: b => by
    rw [List.map_cons, List.map_cons, PyData.eqvAll, eqvAll_ints a b, PyData.eqv]
    by_cases h : x = y
    · subst h
      simp
    · simp [h]
theorem eqv_ints (a b : List Int) : PyData.eqv (intsD a) (intsD b) = decide (a = b) := by
  unfold intsD
  rw [PyData.eqv]
  exact eqvAll_ints a b
section
variable {K : PySem.W.Frag} {H : Hp}
theorem dpAll_ints : ∀ ns : List Int, DpAll K H (ns.map V.int) (ns.map PyData.int)
  | [] => .nil
  | n :: ns => .cons (.int n) (dpAll_ints ns)
theorem dp_ints {a : Addr} {ns : List Int} (h : SqL K H a (ns.map V.int)) : Dp K H (.ref a) (intsD ns) := .lst h (dpAll_ints ns)
theorem ne_ints {a b : Addr} {ns ms : List Int} {Q : VK} (h1 : SqL K H a (ns.map V.int)) (h2 : SqL K H b (ms.map V.int)) (q : Q (.bl (!decide (ns = ms))) H) : rNeD K (.ref a) (.ref b) H Q :=
  ⟨_, _, dp_ints h1, dp_ints h2, shaped_ints _, shaped_ints _, by rw [eqv_ints]; exact q⟩
theorem eq_ints {a b : Addr} {ns ms : List Int} {Q : VK} (h1 : SqL K H a (ns.map V.int)) (h2 : SqL K H b (ms.map V.int)) (q : Q (.bl (decide (ns = ms))) H) : rEqD K (.ref a) (.ref b) H Q :=
  ⟨_, _, dp_ints h1, dp_ints h2, shaped_ints _, shaped_ints _, by rw [eqv_ints]; exact q⟩
end
end Lp
namespace Lp
open PySem L2
def top (i : Nat) : Stmt := PySem.Challenge.pw_lastpiece_k01_tables_known.main.body.getD i (.Pass ⟨0, 0, 0, 0⟩)
abbrev s_is_within : Stmt := top 2
abbrev s_is_guest : Stmt := top 3
abbrev s_is_table : Stmt := top 4
abbrev s_law_cell_at : Stmt := top 6
abbrev s_law_draws : Stmt := top 7
abbrev s_law_spoilt : Stmt := top 8
abbrev s_law_from : Stmt := top 9
abbrev s_law_bag : Stmt := top 10
abbrev s_law_bags : Stmt := top 11
abbrev s_law_take : Stmt := top 12
abbrev s_law_far_draw : Stmt := top 13
abbrev s_law_odd : Stmt := top 14
abbrev s_law_table : Stmt := top 15
abbrev s_law_is_table : Stmt := top 16
abbrev s_law : Stmt := top 17
end Lp
namespace Lp
open PySem PySem.Spec PyProof.Rows L2
/-! ### tables: what is_table tells of data -/
def withinD (lo hi : Int) : PyData → Bool
  | .int i => decide (lo ≤ i) && decide (i ≤ hi)
  | _ => false
def enoughD : PyData → Bool
  | .none => true
  | e => withinD 0 1000000000000000000 e
def guestD : PyData → Bool
  | .tuple [c, e] => withinD 0 1000000000000000000 c && enoughD e
  | _ => false
def tableD : PyData → Bool
  | .tuple gs => decide (1 ≤ gs.length) && decide (gs.length ≤ 8) && gs.all guestD
  | _ => false
def spWithin (K : PySem.W.Frag) : Sp := fun vs H Q _ => ∃ (v : V) (lo hi : Int) (d : PyData), vs = [v, .int lo, .int hi] ∧ Dp K H v d ∧ Q (.bl (withinD lo hi d)) H
def spGuest (K : PySem.W.Frag) : Sp := fun vs H Q _ => ∃ (v : V) (d : PyData), vs = [v] ∧ Dp K H v d ∧ Q (.bl (guestD d)) H
def spTable (K : PySem.W.Frag) : Sp := fun vs H Q _ => ∃ (v : V) (d : PyData), vs = [v] ∧ Dp K H v d ∧ ∀ H', Same H H' → Q (.bl (tableD d)) H'
/-- the module's GREATEST -/
def Greatest (mg : Str → Option Value) : Prop := ∃ v, mg "GREATEST" = some v ∧ RelV (.int 1000000000000000000) v
section
variable {P : Program} {w : World} {K : PySem.W.Frag} {mg : Str → Option Value} {base : Heap}
theorem sc_is_within : FnScope ["thing", "low", "high"] ["thing", "low", "high"] (defScope s_is_within) := ⟨rfl, rfl, rfl, by decide +kernel, rfl, by decide +kernel, by decide +kernel⟩
theorem ok_is_within {f : Addr} {fd : FuncData} (F : L2.Fun K "is_within" "is_within" s_is_within f fd) (B : Bls mg) : FnOk P w K mg base L2.CX0 1 f fd ["thing", "low", "high"] (spWithin K) := by
  refine F.ok sc_is_within (fun vs H Q E h => ?_) (fun cdv A outer s H vs Q E hr h => ?_)
  · obtain ⟨v, lo, hi, d, rfl, _⟩ := h
    rfl
  · obtain ⟨v, lo, hi, d, rfl, hd, k⟩ := h
    refine ⟨_, (pss_one (ps_ret (pe_and (pe_isi B (pv 0) (pe_tInt B)) (pe_and (pe_not (pe_isi B (pv 0) (pe_tBool B))) (pe_one (pe_chain op_le op_le (pv 1) (pv 0) (pv 2))))))), ?_⟩
    refine ⟨_, rfl, ?_⟩
    cases hd with
    | non => 
      refine ⟨_, _, _, _, _, rfl, .ty _, tyx .non, kit_i _ _, ?_⟩
      exact ⟨_, rfl, iteF k⟩
    | str x => 
      refine ⟨_, _, _, _, _, rfl, .ty _, tyx (.str x), kit_i _ _, ?_⟩
      exact ⟨_, rfl, iteF k⟩
    | lst hs ha => 
      refine ⟨_, _, _, _, _, rfl, .ty _, tyx (.lst hs ha), kit_i _ _, ?_⟩
      exact ⟨_, rfl, iteF k⟩
    | tup hs ha => 
      refine ⟨_, _, _, _, _, rfl, .ty _, tyx (.tup hs ha), kit_i _ _, ?_⟩
      exact ⟨_, rfl, iteF k⟩
    | bl b => 
      refine ⟨_, _, _, _, _, rfl, .ty _, tyx (.bl b), kit_i _ _, ?_⟩
      refine ⟨_, rfl, iteT ⟨_, rfl, ?_⟩⟩
      refine ⟨_, _, _, _, _, rfl, .ty _, tyx (.bl b), kit_b _ _, ?_⟩
      exact ⟨_, rfl, _, rfl, iteF k⟩
    | int i =>
      refine ⟨_, _, _, _, _, rfl, .ty _, tyx (.int i), kit_i _ _, ?_⟩
      refine ⟨_, rfl, iteT ⟨_, rfl, ?_⟩⟩
      refine ⟨_, _, _, _, _, rfl, .ty _, tyx (.int i), kit_b _ _, ?_⟩
      refine ⟨_, rfl, _, rfl, iteT ?_⟩
      refine ⟨_, rfl, _, rfl, _, _, rfl, rfl, _, rfl, ?_⟩
      have k' : Q (.bl (decide (lo ≤ i) && decide (i ≤ hi))) H := k
      refine ite2 (fun c => ?_) (fun c => ?_)
      · rw [c, Bool.true_and] at k'
        exact ⟨_, rfl, _, _, rfl, rfl, k'⟩
      · rw [Bool.eq_false_iff.mpr c, Bool.false_and] at k'
        exact k'
theorem sc_is_guest : FnScope ["thing"] ["thing"] (defScope s_is_guest) := ⟨rfl, rfl, rfl, by decide +kernel, rfl, by decide +kernel, by decide +kernel⟩
theorem ok_is_guest {f : Addr} {fd : FuncData} (F : L2.Fun K "is_guest" "is_guest" s_is_guest f fd) (B : Bls mg) (G : Greatest mg) (c_is_within : Cal P w K mg base 1 "is_within" (spWithin K)) : FnOk P w K mg base L2.CX0 2 f fd ["thing"] (spGuest K) := by
  refine F.ok sc_is_guest (fun vs H Q E h => ?_) (fun cdv A outer s H vs Q E hr h => ?_)
  · obtain ⟨v, d, rfl, _⟩ := h
    rfl
  · obtain ⟨v, d, rfl, hd, k⟩ := h
    obtain ⟨gv, h_GREATEST, r_GREATEST⟩ := G
    refine ⟨_, (pss_cons (ps_if (PW.pt (pw_or (pt_not (pt_val (pe_isi B (pv 0) (pe_tTuple B)))) (pw_or (pt_cmpR op_ne (pe_len B (pv 0)) pe_int (nomark _)) (pw_or1 (pt_not (pt_val (pe_g c_is_within hr (pa_cons (pe_ix ix_tup (pv 0) pe_int (fun _ _ => rfl)) (pa_cons pe_int (pa_cons (pe_glob (by rfl) h_GREATEST r_GREATEST) pa_nil))))))))))
      (pss_one (ps_ret pe_bl))
      pss_nil)
      (pss_one (ps_ret (pe_or (pe_cmpR op_isN (pe_ix ix_tup (pv 0) pe_int (fun _ _ => rfl)) pe_non (nomark _)) (pe_one (pe_g c_is_within hr (pa_cons (pe_ix ix_tup (pv 0) pe_int (fun _ _ => rfl)) (pa_cons pe_int (pa_cons (pe_glob (by rfl) h_GREATEST r_GREATEST) pa_nil))))))))), ?_⟩
    refine ⟨_, rfl, ?_⟩
    cases hd with
    | non => 
      refine ⟨_, _, _, _, _, rfl, .ty _, tyx .non, kit_t _ _, ?_⟩
      exact ⟨_, rfl, iteT (iteT k)⟩
    | bl b => 
      refine ⟨_, _, _, _, _, rfl, .ty _, tyx (.bl b), kit_t _ _, ?_⟩
      exact ⟨_, rfl, iteT (iteT k)⟩
    | int i => 
      refine ⟨_, _, _, _, _, rfl, .ty _, tyx (.int i), kit_t _ _, ?_⟩
      exact ⟨_, rfl, iteT (iteT k)⟩
    | str x => 
      refine ⟨_, _, _, _, _, rfl, .ty _, tyx (.str x), kit_t _ _, ?_⟩
      exact ⟨_, rfl, iteT (iteT k)⟩
    | lst hs ha => 
      refine ⟨_, _, _, _, _, rfl, .ty _, tyx (.lst hs ha), kit_t _ _, ?_⟩
      exact ⟨_, rfl, iteT (iteT k)⟩
    | @tup a xs ds hs ha =>
      refine ⟨_, _, _, _, _, rfl, .ty _, tyx (.tup hs ha), kit_t _ _, ?_⟩
      refine ⟨_, rfl, iteF ?_⟩
      refine ⟨_, rfl, a, xs, rfl, .inr hs, rfl, _, rfl, ?_⟩
      cases ha with
      | nil => exact iteT (iteT k)
      | @cons v0 vs0 d0 ds0 h0 ha =>
        cases ha with
        | nil => exact iteT (iteT k)
        | @cons v1 vs1 d1 ds1 h1 ha =>
          cases ha with
          | @cons v2 vs2 d2 ds2 h2 ha =>
            have e : (decide (V.int ((v0 :: v1 :: v2 :: vs2).length : Nat) = V.int 2)) = false := by
              rw [dec_int]
              simp
              omega
            rw [e]
            exact iteT (iteT k)
          | nil =>
            refine iteF ⟨_, rfl, a, _, _, v0, rfl, rfl, hs, rfl, ⟨v0, 0, 1000000000000000000, d0, rfl, h0, ?_⟩⟩
            have k' : Q (.bl (withinD 0 1000000000000000000 d0 && enoughD d1)) H := k
            refine ⟨_, rfl, ?_⟩
            cases ew : withinD 0 1000000000000000000 d0 with
            | false =>
              rw [ew, Bool.false_and] at k'
              exact iteT k'
            | true =>
              rw [ew, Bool.true_and] at k'
              refine iteF ⟨_, rfl, a, _, _, v1, rfl, rfl, hs, rfl, rfl, _, rfl, ?_⟩
              cases h1 with
              | non => exact iteT k'
              | bl b => exact iteF ⟨_, rfl, a, _, _, _, rfl, rfl, hs, rfl, ⟨_, _, _, _, rfl, .bl b, k'⟩⟩
              | int b => exact iteF ⟨_, rfl, a, _, _, _, rfl, rfl, hs, rfl, ⟨_, _, _, _, rfl, .int b, k'⟩⟩
              | str b => exact iteF ⟨_, rfl, a, _, _, _, rfl, rfl, hs, rfl, ⟨_, _, _, _, rfl, .str b, k'⟩⟩
              | lst g1 g2 => exact iteF ⟨_, rfl, a, _, _, _, rfl, rfl, hs, rfl, ⟨_, _, _, _, rfl, .lst g1 g2, k'⟩⟩
              | tup g1 g2 => exact iteF ⟨_, rfl, a, _, _, _, rfl, rfl, hs, rfl, ⟨_, _, _, _, rfl, .tup g1 g2, k'⟩⟩
theorem dp_same {H H' : Hp} (s : Same H H') : (∀ {v : V} {d : PyData}, Dp K H v d → Dp K H' v d) ∧ ∀ {vs : List V} {ds : List PyData}, DpAll K H vs ds → DpAll K H' vs ds := by
  have key : ∀ (n : Nat), (∀ (d : PyData) (v : V), sizeOf d < n → Dp K H v d → Dp K H' v d) ∧ ∀ (ds : List PyData) (vs : List V), sizeOf ds < n → DpAll K H vs ds → DpAll K H' vs ds := by
    intro n
    induction n with
    | zero => exact ⟨fun _ _ h => absurd h (Nat.not_lt_zero _), fun _ _ h => absurd h (Nat.not_lt_zero _)⟩
    | succ n ih =>
      refine ⟨fun d v hn h => ?_, fun ds vs hn h => ?_⟩
      · cases h with
        | non => exact .non
        | bl b => exact .bl b
        | int i => exact .int i
        | str x => exact .str x
        | lst hs ha => exact .lst (s.seq hs) (ih.2 _ _ (by simp only [PyData.list.sizeOf_spec] at hn; omega) ha)
        | tup hs ha => exact .tup (Same.sqt s hs) (ih.2 _ _ (by simp only [PyData.tuple.sizeOf_spec] at hn; omega) ha)
      · cases h with
        | nil => exact .nil
        | cons h1 h2 =>
          simp only [List.cons.sizeOf_spec] at hn
          exact .cons (ih.1 _ _ (by omega) h1) (ih.2 _ _ (by omega) h2)
  exact ⟨fun {v d} h => (key (sizeOf d + 1)).1 d v (Nat.lt_succ_self _) h, fun {vs ds} h => (key (sizeOf ds + 1)).2 ds vs (Nat.lt_succ_self _) h⟩
theorem dpAll_get {H : Hp} : ∀ {vs : List V} {ds : List PyData} {i : Nat} {v : V}, DpAll K H vs ds → vs[i]? = some v → ∃ d, ds[i]? = some d ∧ Dp K H v d
  | _, _, _, _, .nil, e => by simp at e
  | _, _, 0, _, .cons h _, e => by simp at e; subst e; exact ⟨_, rfl, h⟩
  | _, _, i + 1, v, .cons _ h, e => by
    obtain ⟨d, h1, h2⟩ := dpAll_get (i := i) h (by simpa using e)
    exact ⟨d, by simpa using h1, h2⟩
theorem dpAll_len {H : Hp} : ∀ {vs : List V} {ds : List PyData}, DpAll K H vs ds → vs.length = ds.length
  | _, _, .nil => rfl
  | _, _, .cons _ h => congrArg Nat.succ (dpAll_len h)
theorem sc_is_table : FnScope ["thing", "one"] ["thing"] (defScope s_is_table) := ⟨rfl, rfl, rfl, by decide +kernel, rfl, by decide +kernel, by decide +kernel⟩
theorem ok_is_table {f : Addr} {fd : FuncData} (F : L2.Fun K "is_table" "is_table" s_is_table f fd) (B : Bls mg) (c_is_guest : Cal P w K mg base 2 "is_guest" (spGuest K)) : FnOk P w K mg base L2.CX0 3 f fd ["thing"] (spTable K) := by
  refine F.ok sc_is_table (fun vs H Q E h => ?_) (fun cdv A outer s H vs Q E hr h => ?_)
  · obtain ⟨v, d, rfl, _⟩ := h
    rfl
  · obtain ⟨v, d, rfl, hd, k⟩ := h
    have kF : tableD d = false → Q (.bl false) H := fun e => by
      rw [← e]; exact k H (Same.refl H)
    refine ⟨_, (pss_one (ps_ret (pe_and (pe_isi B (pv 0) (pe_tTuple B)) (pe_and (pe_chain op_le op_le pe_int (pe_len B (pv 0)) pe_int) (pe_one (pe_callB (cr_all rfl) (by rfl) B.all (by decide +kernel) (pa_cons (pe_lc (own := [("one", 1)]) (g := gName 1)  (tt := tYes) (by rfl) sc_is_table.nd (pi_tup (pv 0)) (blkOk_by (own := [("one", 1)]) (N := ["thing", "one"]) (sc := defScope s_is_table) (by decide +kernel)) (fun _ _ _ _ _ => by exact (pg_name (i := 1) sc_is_table.nd rfl (Or.inl rfl))) (fun _ _ _ _ _ => by exact pts_nil) (fun _ _ _ _ _ => by exact (pe_g c_is_guest hr (pa_cons (pv 1) pa_nil)))) pa_nil))))))), ?_⟩
    refine ⟨_, rfl, ?_⟩
    cases hd with
    | non => exact ⟨_, _, _, _, _, rfl, .ty _, tyx .non, kit_t _ _, _, rfl, iteF (kF rfl)⟩
    | bl b => exact ⟨_, _, _, _, _, rfl, .ty _, tyx (.bl b), kit_t _ _, _, rfl, iteF (kF rfl)⟩
    | int i => exact ⟨_, _, _, _, _, rfl, .ty _, tyx (.int i), kit_t _ _, _, rfl, iteF (kF rfl)⟩
    | str x => exact ⟨_, _, _, _, _, rfl, .ty _, tyx (.str x), kit_t _ _, _, rfl, iteF (kF rfl)⟩
    | lst hs ha => exact ⟨_, _, _, _, _, rfl, .ty _, tyx (.lst hs ha), kit_t _ _, _, rfl, iteF (kF rfl)⟩
    | @tup a xs ds hs ha =>
      refine ⟨_, _, _, _, _, rfl, .ty _, tyx (.tup hs ha), kit_t _ _, _, rfl, iteT ?_⟩
      have el := dpAll_len ha
      refine ⟨_, rfl, a, xs, rfl, .inr hs, _, _, rfl, rfl, _, rfl, ?_⟩
      refine ite2 (fun c1 => ?_) (fun c1 => ?_)
      · have l1 : 1 ≤ ds.length := by have := of_decide_eq_true c1; omega
        refine ⟨_, _, rfl, rfl, _, rfl, ?_⟩
        refine ite2 (fun c2 => ?_) (fun c2 => ?_)
        · have l2 : ds.length ≤ 8 := by have := of_decide_eq_true c2; omega
          refine ⟨_, rfl, a, rfl, ⟨_, hs⟩, fun D hD => ?_⟩
          refine lc_tup (K := K) (a := a) (xs := xs) (fun i H' => Same H H' ∧ H' D = some (.lst ((ds.take i).map fun d => V.bl (guestD d)))) ⟨same_upd hD, upd_same⟩ (fun i H' _ h => Same.sqt h.1 hs) ?_ ?_
          · rintro i x H' hi ⟨sm, hl⟩
            obtain ⟨d, e1, e2⟩ := dpAll_get ha hi
            refine ⟨rfl, ?_⟩
            have l8 : i < ds.length := by rw [← el]; exact (List.getElem?_eq_some_iff.mp hi).1
            refine ⟨_, rfl, x, d, rfl, (dp_same sm).1 e2, _, hl, by rw [List.length_map, List.length_take]; exact small1000 (by omega), fun b o e => ?_, ?_⟩
            · rw [upd_ne (ne_of_none e hD)]
              exact sm b o e
            · rw [upd_same, List.take_add_one, e1, List.map_append]
              rfl
          · rintro H' ⟨sm, hl⟩
            refine ⟨D, ds.map guestD, rfl, SqL.of ?_, ?_⟩
            · rw [hl, el, List.take_length, List.map_map]
              rfl
            · have e : tableD (.tuple ds) = (ds.map guestD).all id := by
                show (decide (1 ≤ ds.length) && decide (ds.length ≤ 8) && ds.all guestD) = _
                rw [decide_eq_true l1, decide_eq_true l2, List.all_map]
                rfl
              rw [← e]
              exact k H' sm
        · exact kF (by
            show (decide (1 ≤ ds.length) && decide (ds.length ≤ 8) && ds.all guestD) = false
            rw [show decide (ds.length ≤ 8) = false from decide_eq_false (by intro q; exact c2 (decide_eq_true (by omega)))]
            simp)
      · exact ⟨_, rfl, iteF (kF (by
          show (decide (1 ≤ ds.length) && decide (ds.length ≤ 8) && ds.all guestD) = false
          rw [show decide (1 ≤ ds.length) = false from decide_eq_false (by intro q; exact c1 (decide_eq_true (by omega)))]
          simp))⟩
end
end Lp
namespace Lp
open PySem PySem.Spec PyProof.Rows L2
/-! ### tables as data -/
abbrev Guest := Int × Option Int
def optD : Option Int → PyData
  | none => .none
  | some m => .int m
def optV : Option Int → V
  | none => .non
  | some m => .int m
def tabD (t : List Guest) : PyData := .tuple (t.map fun g => .tuple [.int g.1, optD g.2])
def TabOk (t : List Guest) : Prop := 1 ≤ t.length ∧ t.length ≤ 8 ∧ ∀ g ∈ t, 0 ≤ g.1 ∧ g.1 ≤ 1000000000000000000 ∧ ∀ m, g.2 = some m → 0 ≤ m ∧ m ≤ 1000000000000000000
theorem guestD_ok {g : Guest} (h : 0 ≤ g.1 ∧ g.1 ≤ 1000000000000000000 ∧ ∀ m, g.2 = some m → 0 ≤ m ∧ m ≤ 1000000000000000000) : guestD (.tuple [.int g.1, optD g.2]) = true := by
  obtain ⟨c, e⟩ := g
  obtain ⟨h1, h2, h3⟩ := h
  show (decide (0 ≤ c) && decide (c ≤ 1000000000000000000) && enoughD (optD e)) = true
  rw [decide_eq_true h1, decide_eq_true h2]
  cases e with
  | none => rfl
  | some m =>
    obtain ⟨h4, h5⟩ := h3 m rfl
    show (decide (0 ≤ m) && decide (m ≤ 1000000000000000000)) = true
    rw [decide_eq_true h4, decide_eq_true h5]
    rfl
theorem tableD_ok {t : List Guest} (h : TabOk t) : tableD (tabD t) = true := by
  obtain ⟨h1, h2, h3⟩ := h
  show (decide (1 ≤ (t.map _).length) && decide ((t.map _).length ≤ 8) && (t.map _).all guestD) = true
  rw [List.length_map, decide_eq_true h1, decide_eq_true h2, List.all_map]
  exact List.all_eq_true.mpr fun g hg => guestD_ok (h3 g hg)
section
variable {P : Program} {w : World} {K : PySem.W.Frag} {mg : Str → Option Value} {base : Heap}
abbrev TableAt (K : PySem.W.Frag) (H : Hp) (a : Addr) (t : List Guest) : Prop := Dp K H (.ref a) (tabD t)
/-- the guests' tuples -/
theorem TableAt.open {H : Hp} {a : Addr} {t : List Guest} (h : TableAt K H a t) :
    ∃ xs : List V, SqT K H a xs ∧ xs.length = t.length ∧ ∀ (i : Nat) (g : Guest), t[i]? = some g → ∃ p : Addr, xs[i]? = some (.ref p) ∧ SqT K H p [.int g.1, optV g.2] := by
  cases h with
  | @tup _ xs _ hs ha =>
    have hl := dpAll_len ha
    rw [List.length_map] at hl
    refine ⟨xs, hs, hl, fun i g hg => ?_⟩
    have hi : i < xs.length := by rw [hl]; exact (List.getElem?_eq_some_iff.mp hg).1
    obtain ⟨d, h1, h2⟩ := dpAll_get (v := xs[i]) ha (List.getElem?_eq_getElem hi)
    rw [List.getElem?_map, hg] at h1
    obtain rfl := (Option.some.inj h1).symm
    rw [List.getElem?_eq_getElem hi]
    generalize xs[i] = v at h2 ⊢
    cases h2 with
    | @tup p ys _ hp hq =>
      refine ⟨p, rfl, ?_⟩
      cases hq with
      | cons q1 q2 =>
        cases q2 with
        | cons q3 q4 =>
          cases q4
          cases q1
          obtain ⟨c, e⟩ := g
          cases e with
          | none => cases q3; exact hp
          | some m => cases q3; exact hp
theorem TableAt.mk {H : Hp} {a : Addr} {t : List Guest} {ps : List Addr} (h : SqT K H a (ps.map V.ref)) (hl : ps.length = t.length) (hg : ∀ (i : Nat) (g : Guest) (p : Addr), t[i]? = some g → ps[i]? = some p → SqT K H p [.int g.1, optV g.2]) : TableAt K H a t := by
  refine .tup h ?_
  clear h
  induction t generalizing ps with
  | nil =>
    cases ps with
    | nil => exact .nil
    | cons _ _ => simp at hl
  | cons g t ih =>
    cases ps with
    | nil => simp at hl
    | cons p ps =>
      refine .cons (.tup (hg 0 g p rfl rfl) ?_) (ih (by simpa using hl) fun i g' p' h1 h2 => hg (i + 1) g' p' (by simpa using h1) (by simpa using h2))
      obtain ⟨c, e⟩ := g
      cases e with
      | none => exact .cons (.int c) (.cons .non .nil)
      | some m => exact .cons (.int c) (.cons (.int m) .nil)
theorem TableAt.same {H H' : Hp} {a : Addr} {t : List Guest} (h : TableAt K H a t) (s : Same H H') : TableAt K H' a t := (dp_same s).1 h
end
end Lp
namespace Lp
open PySem PySem.Spec PyProof.Rows L2
/-! ### heaps in which bags turn -/
/-- all stands as it was, but that a bag's place (a list [draws, place]) may be another -/
def Evo (H H' : Hp) : Prop := ∀ a o, H a = some o → H' a = some o ∨ ∃ (l : Addr) (i j : Int), o = .lst [.ref l, .int i] ∧ H' a = some (.lst [.ref l, .int j]) ∧ (0 ≤ i → 0 ≤ j)
theorem Evo.refl (H : Hp) : Evo H H := fun _ _ h => .inl h
theorem Evo.trans {H H1 H2 : Hp} (e1 : Evo H H1) (e2 : Evo H1 H2) : Evo H H2 := fun a o h => by
  rcases e1 a o h with h1 | ⟨l, i, j, rfl, h1, p1⟩
  · exact e2 a o h1
  · rcases e2 a _ h1 with h2 | ⟨l', i', j', q, h2, p2⟩
    · exact .inr ⟨l, i, j, rfl, h2, p1⟩
    · cases q
      exact .inr ⟨l, i, j', rfl, h2, fun z => p2 (p1 z)⟩
theorem Same.evo {H H' : Hp} (s : Same H H') : Evo H H' := fun a o h => .inl (s a o h)
theorem Evo.keep {H H' : Hp} (e : Evo H H') {a : Addr} {o : HO} (h : H a = some o) (no : ∀ l i, o ≠ .lst [.ref l, .int i]) : H' a = some o := by
  rcases e a o h with h1 | ⟨l, i, j, q, _⟩
  · exact h1
  · exact absurd q (no l i)
theorem Evo.free {H H' : Hp} (e : Evo H H') {a : Addr} (h : H' a = none) : H a = none := by
  cases q : H a with
  | none => rfl
  | some o =>
    rcases e a o q with h1 | ⟨_, _, _, _, h1, _⟩
    · rw [h] at h1; cases h1
    · rw [h] at h1; cases h1
section
variable {K : PySem.W.Frag} {H H' : Hp} {a : Addr}
theorem Evo.sqt (e : Evo H H') {xs : List V} (h : SqT K H a xs) : SqT K H' a xs := by
  rcases h with (h | ⟨o, h⟩) | h
  · exact .inl (.inl (e.keep h fun _ _ z => by cases z))
  · exact .inl (.inr ⟨o, e.keep h fun _ _ z => by cases z⟩)
  · exact .inr h
theorem Evo.sql (e : Evo H H') {xs : List V} (h : SqL K H a xs) (no : ∀ l i, xs ≠ [.ref l, .int i]) : SqL K H' a xs := by
  rcases h with (h | ⟨o, h⟩) | h
  · exact .inl (.inl (e.keep h fun l i z => no l i (HO.lst.inj z)))
  · exact .inl (.inr ⟨o, e.keep h fun _ _ z => by cases z⟩)
  · exact .inr h
theorem ints_no {ns : List Int} (l : Addr) (i : Int) : ns.map V.int ≠ [.ref l, .int i] := fun z => by
  cases ns with
  | nil => cases z
  | cons _ _ => cases z
theorem refs_no {ps : List Addr} (l : Addr) (i : Int) : ps.map V.ref ≠ [.ref l, .int i] := fun z => by
  cases ps with
  | nil => cases z
  | cons _ r =>
    cases r with
    | nil => cases z
    | cons _ _ => cases z
theorem Evo.ints (e : Evo H H') {ns : List Int} (h : SqL K H a (ns.map V.int)) : SqL K H' a (ns.map V.int) := e.sql h ints_no
theorem Evo.intsH (e : Evo H H') {ns : List Int} (h : H a = some (.lst (ns.map V.int))) : H' a = some (.lst (ns.map V.int)) := e.keep h fun l i z => ints_no l i (HO.lst.inj z)
theorem Evo.refsH (e : Evo H H') {ps : List Addr} (h : H a = some (.lst (ps.map V.ref))) : H' a = some (.lst (ps.map V.ref)) := e.keep h fun l i z => refs_no l i (HO.lst.inj z)
theorem Evo.tupH (e : Evo H H') {xs : List V} (h : H a = some (.tup xs)) : H' a = some (.tup xs) := e.keep h fun l i z => by cases z
/-- data without lists -/
inductive NoL : PyData → Prop
  | non : NoL .none
  | bl (b : Bool) : NoL (.bool b)
  | int (i : Int) : NoL (.int i)
  | str (x : Str) : NoL (.str x)
  | tup {ds : List PyData} (h : ∀ d ∈ ds, NoL d) : NoL (.tuple ds)
theorem dp_evo (e : Evo H H') {v : V} {d : PyData} (n : NoL d) (h : Dp K H v d) : Dp K H' v d := by
  have key : ∀ (n : Nat), (∀ (d : PyData) (v : V), sizeOf d < n → NoL d → Dp K H v d → Dp K H' v d) ∧ ∀ (ds : List PyData) (vs : List V), sizeOf ds < n → (∀ d ∈ ds, NoL d) → DpAll K H vs ds → DpAll K H' vs ds := by
    intro n
    induction n with
    | zero => exact ⟨fun _ _ h => absurd h (Nat.not_lt_zero _), fun _ _ h => absurd h (Nat.not_lt_zero _)⟩
    | succ n ih =>
      refine ⟨fun d v hn hl h => ?_, fun ds vs hn hl h => ?_⟩
      · cases h with
        | non => exact .non
        | bl b => exact .bl b
        | int i => exact .int i
        | str x => exact .str x
        | lst hs ha => cases hl
        | tup hs ha =>
          cases hl with
          | tup hl => exact .tup (e.sqt hs) (ih.2 _ _ (by simp only [PyData.tuple.sizeOf_spec] at hn; omega) hl ha)
      · cases h with
        | nil => exact .nil
        | cons h1 h2 =>
          simp only [List.cons.sizeOf_spec] at hn
          exact .cons (ih.1 _ _ (by omega) (hl _ List.mem_cons_self) h1) (ih.2 _ _ (by omega) (fun d hd => hl d (List.mem_cons_of_mem _ hd)) h2)
  exact (key (sizeOf d + 1)).1 d v (Nat.lt_succ_self _) n h
theorem tab_noL (t : List Guest) : NoL (tabD t) := .tup fun d hd => by
  obtain ⟨g, _, rfl⟩ := List.mem_map.mp hd
  obtain ⟨c, e⟩ := g
  refine .tup fun x hx => ?_
  rcases List.mem_cons.mp hx with h | hx
  · rw [h]; exact .int _
  · have : x = optD e := by simpa using hx
    rw [this]
    cases e with
    | none => exact .non
    | some m => exact .int m
theorem TableAt.evo {t : List Guest} (h : TableAt K H a t) (e : Evo H H') : TableAt K H' a t := dp_evo e (tab_noL t) h
/-- a bag of draws -/
def BagAt (K : PySem.W.Frag) (H : Hp) (b : Addr) : Prop := ∃ (l : Addr) (i : Int) (ns : List Int), H b = some (.lst [.ref l, .int i]) ∧ 0 ≤ i ∧ SqL K H l (ns.map V.int) ∧ ns.length = 400 ∧ ∀ n ∈ ns, 0 ≤ n ∧ n < 1000
theorem BagAt.evo {b : Addr} (h : BagAt K H b) (e : Evo H H') : BagAt K H' b := by
  obtain ⟨l, i, ns, h1, h2, h3, h4, h5⟩ := h
  rcases e b _ h1 with q | ⟨l', i', j, q, h6, h7⟩
  · exact ⟨l, i, ns, q, h2, e.ints h3, h4, h5⟩
  · cases q
    exact ⟨l, j, ns, h6, h7 h2, e.ints h3, h4, h5⟩
end
end Lp
namespace Lp
open PySem PySem.Spec PyProof.Rows L2
section
variable {P : Program} {w : World} {K : PySem.W.Frag} {mg : Str → Option Value} {base : Heap}
/-! ### the law's draws -/
def spCell (K : PySem.W.Frag) : Sp := fun vs H Q _ => ∃ (a : Addr) (ns : List Int) (k : Int), vs = [.ref a, .int k] ∧ SqL K H a (ns.map V.int) ∧ 0 ≤ k ∧ ∀ z : Int, Q (.int z) H
theorem sc_law_cell_at : FnScope ["script", "k"] ["script", "k"] (defScope s_law_cell_at) := ⟨rfl, rfl, rfl, by decide +kernel, rfl, by decide +kernel, by decide +kernel⟩
theorem ok_cell {f : Addr} {fd : FuncData} (F : L2.Fun K "_law_cell_at" "_law_cell_at" s_law_cell_at f fd) (B : Bls mg) : FnOk P w K mg base L2.CX0 1 f fd ["script", "k"] (spCell K) := by
  refine F.ok sc_law_cell_at (fun vs H Q E h => ?_) (fun cdv A outer s H vs Q E hr h => ?_)
  · obtain ⟨a, ns, k, rfl, _⟩ := h
    rfl
  · obtain ⟨a, ns, k, rfl, hs, h0, q⟩ := h
    refine ⟨_, (pss_cons (ps_if (pt_cmpR op_lt (pv 1) (pe_len B (pv 0)) (nomark _))
      (pss_one (ps_ret (pe_ix ix_list (pv 0) (pv 1) (fun _ _ => rfl))))
      pss_nil)
      (pss_one (ps_ret pe_int))), ?_⟩
    refine ⟨_, rfl, _, rfl, a, _, rfl, .inl hs, _, _, rfl, rfl, _, rfl, ?_⟩
    refine ite2 (fun c => ?_) (fun c => ?_)
    · have lt := of_decide_eq_true c
      rw [List.length_map] at lt
      have hk : k.toNat < ns.length := by omega
      refine ⟨_, rfl, _, rfl, a, _, _, _, rfl, rfl, hs, at_of (j := k.toNat) (by omega) (map_at (List.getElem?_eq_getElem hk)), q _⟩
    · exact q 0
def spDraws : Sp := fun vs H Q _ => ∃ (cell : Int), vs = [.int cell, .int 400, .int 1000] ∧ ∀ (l : Addr) (ns : List Int) (H' : Hp), Same H H' → H l = none → H' l = some (.lst (ns.map V.int)) → ns.length = 400 → (∀ n ∈ ns, 0 ≤ n ∧ n < 1000) → Q (.ref l) H'
theorem sc_law_draws : FnScope ["cell", "many", "size", "found", "rest", "stirred", "k"] ["cell", "many", "size"] (defScope s_law_draws) := ⟨rfl, rfl, rfl, by decide +kernel, rfl, by decide +kernel, by decide +kernel⟩
theorem ok_draws {f : Addr} {fd : FuncData} (F : L2.Fun K "_law_draws" "_law_draws" s_law_draws f fd) (B : Bls mg) : FnOk P w K mg base L2.CX0 1 f fd ["cell", "many", "size"] spDraws := by
  refine F.ok sc_law_draws (fun vs H Q E h => ?_) (fun cdv A outer s H vs Q E hr h => ?_)
  · obtain ⟨cell, rfl, _⟩ := h
    rfl
  · obtain ⟨cell, rfl, q⟩ := h
    refine ⟨_, (pss_cons (ps_set (i := 3) sc_law_draws.nd rfl (Or.inl rfl) (pe_lst pa_nil))
      (pss_cons (ps_set (i := 4) sc_law_draws.nd rfl (Or.inl rfl) (pe_op op_mul (pv 0) (pe_callTy call_int1 (by rfl) B.int (by decide +kernel) (pa_cons (pe_cmpR op_ge (pv 0) (pe_op op_pow pe_int pe_int) (nomark _)) pa_nil))))
      (pss_cons (ps_set (i := 5) sc_law_draws.nd rfl (Or.inl rfl) (pe_op op_mod (pv 0) pe_int))
      (pss_cons (ps_for PassesOwn.never rfl (pi_range1 (by rfl) B.range (pa_cons (pe_op op_add (pv 1) pe_int) pa_nil)) (pg_name (i := 6) sc_law_draws.nd rfl (Or.inl rfl))
      (pss_cons (ps_set (i := 5) sc_law_draws.nd rfl (Or.inl rfl) (pe_op op_mod (pe_op op_add (pe_op op_add (pe_op op_add (pe_op op_mul (pv 5) (pv 5)) (pe_op op_mul pe_int (pv 5))) (pv 6)) pe_int) pe_int))
      (pss_one (ps_if (PW.pt (pw_and (pt_cmpR op_gt (pv 6) pe_int (nomark _)) (pw_and1 (pt_cmpR op_gt (pv 4) pe_int (nomark _)))))
      (pss_cons (ps_expr (pe_bm PySem.F.plainAttrs_list PySem.F.slot_list_append PySem.F.type_list_append mt_append (pv 3) (pa_cons (pe_op op_mod (pv 4) (pv 2)) pa_nil)))
      (pss_one (ps_set (i := 4) sc_law_draws.nd rfl (Or.inl rfl) (pe_op op_fdiv (pv 4) (pv 2)))))
      (pss_one (ps_if (pt_cmpR op_gt (pv 6) pe_int (nomark _))
      (pss_one (ps_expr (pe_bm PySem.F.plainAttrs_list PySem.F.slot_list_append PySem.F.type_list_append mt_append (pv 3) (pa_cons (pe_op op_mod (pe_op op_fdiv (pv 5) pe_int) (pv 2)) pa_nil))))
      pss_nil))))))
      (pss_one (ps_ret (pv 3))))))), ?_⟩
    refine ⟨Nat.zero_le _, fun l hl => ?_⟩
    refine ⟨_, rfl, _, rfl, _, _, rfl, rfl, ⟨by decide, by decide, by decide⟩, _, _, rfl, rfl, .inr ⟨_, rfl, _, _, rfl, rfl, .inr ?_, ?_⟩⟩
    · split <;> exact ⟨by decide, by decide⟩
    refine ⟨_, rfl, _, _, rfl, rfl, by show (0 : Int) < 2305843009213693951; decide, ?_⟩
    have e0 := Int.emod_nonneg cell (show (2305843009213693951 : Int) ≠ 0 by decide)
    have e1 := Int.emod_lt_of_pos cell (show (0 : Int) < 2305843009213693951 by decide)
    refine ⟨_, rfl, _, _, rfl, rfl, _, rfl, by decide, by decide, for_range (lo := 0) (n := (403 : Int).toNat) (fun i σ H' => ∃ (rest stirred : Int) (v : Option V) (ns : List Int), σ = [some (.int cell), some (.int 400), some (.int 1000), some (.ref l), some (.int rest), some (.int stirred), v] ∧
      (∀ b o, H b = some o → H' b = some o) ∧ H' l = some (.lst (ns.map V.int)) ∧ ns.length = i - 3 ∧ (∀ n ∈ ns, 0 ≤ n ∧ n < 1000) ∧ 0 ≤ stirred ∧ stirred < 2305843009213693951)
      ⟨_, _, none, [], rfl, same_upd hl, upd_same, rfl, (fun n hn => by cases hn), e0, e1⟩ ?_ ?_⟩
    · rintro i σ H' hi ⟨rest, stirred, v, ns, rfl, sm, hq, hlen, hns, s0, s1⟩
      have hi' : i < 403 := hi
      refine ⟨_, rfl, _, rfl, _, _, rfl, rfl, .inl ⟨by omega, by omega⟩, _, rfl, _, _, rfl, rfl, .inl ⟨by decide, by decide⟩, _, _, rfl, rfl, _, rfl, _, _, rfl, rfl, _, _, rfl, rfl, _, _, rfl, rfl, by show (0 : Int) < 2305843009213693951; decide, ?_⟩
      have t0 := Int.emod_nonneg (stirred * stirred + 48271 * stirred + (0 + (i : Int)) + 1) (show (2305843009213693951 : Int) ≠ 0 by decide)
      have t1 := Int.emod_lt_of_pos (stirred * stirred + 48271 * stirred + (0 + (i : Int)) + 1) (show (0 : Int) < 2305843009213693951 by decide)
      -- one more is put down
      have more : ∀ (z : Int), 0 ≤ z → z < 1000 → 3 ≤ i → (∀ b o, H b = some o → (upd H' l (.lst (ns.map V.int ++ [V.int z]))) b = some o) ∧ (upd H' l (.lst (ns.map V.int ++ [V.int z]))) l = some (.lst ((ns ++ [z]).map V.int)) ∧ (ns ++ [z]).length = i + 1 - 3 ∧ ∀ n ∈ ns ++ [z], 0 ≤ n ∧ n < 1000 := fun z z0 z1 h3 => by
        refine ⟨fun b o e => ?_, ?_, ?_, fun n hn => ?_⟩
        · rw [upd_ne (ne_of_none e hl)]
          exact sm b o e
        · rw [upd_same, List.map_append]
          rfl
        · rw [List.length_append, List.length_singleton]
          omega
        · rcases List.mem_append.mp hn with hn | hn
          · exact hns n hn
          · have : n = z := by simpa using hn
            rw [this]; exact ⟨z0, z1⟩
      have hz : (ns.map V.int).length < sizeLine := by rw [List.length_map]; exact small1000 (by omega)
      have m0 : ∀ z : Int, 0 ≤ z % 1000 ∧ z % 1000 < 1000 := fun z => ⟨Int.emod_nonneg _ (by decide), Int.emod_lt_of_pos _ (by decide)⟩
      refine ⟨_, rfl, _, _, rfl, rfl, _, rfl, ?_⟩
      refine ite2 (fun c1 => ?_) (fun c1 => ?_)
      · have i3 : 3 ≤ i := by have := of_decide_eq_true c1; omega
        refine ⟨_, rfl, _, _, rfl, rfl, _, rfl, ?_⟩
        refine ite2 (fun c2 => ?_) (fun c2 => ?_)
        · refine ⟨_, rfl, .inl ⟨rfl, _, SqL.of hq⟩, _, rfl, _, rfl, _, _, rfl, rfl, by show (0 : Int) < 1000; decide, l, _, _, rfl, rfl, hq, hz, ?_⟩
          refine ⟨_, rfl, _, rfl, _, _, rfl, rfl, ⟨by decide, by decide⟩, ?_⟩
          obtain ⟨m1, m2, m3, m4⟩ := more _ (m0 rest).1 (m0 rest).2 i3
          exact ⟨_, _, _, _, rfl, m1, m2, m3, m4, t0, t1⟩
        · refine ⟨_, rfl, _, _, rfl, rfl, _, rfl, ?_⟩
          rw [c1]
          refine iteT ⟨_, rfl, .inl ⟨rfl, _, SqL.of hq⟩, _, rfl, _, _, rfl, rfl, ⟨by decide, by decide⟩, _, rfl, _, _, rfl, rfl, by show (0 : Int) < 1000; decide, l, _, _, rfl, rfl, hq, hz, ?_⟩
          obtain ⟨m1, m2, m3, m4⟩ := more _ (m0 ((stirred * stirred + 48271 * stirred + (0 + (i : Int)) + 1) % 2305843009213693951 / 4096)).1 (m0 ((stirred * stirred + 48271 * stirred + (0 + (i : Int)) + 1) % 2305843009213693951 / 4096)).2 i3
          exact ⟨_, _, _, _, rfl, m1, m2, m3, m4, t0, t1⟩
      · have i3 : i < 3 := by
          have : ¬ ((2 : Int) < 0 + (i : Int)) := fun z => c1 (decide_eq_true z)
          omega
        refine ⟨_, rfl, _, _, rfl, rfl, _, rfl, ?_⟩
        rw [Bool.eq_false_iff.mpr c1]
        exact iteF ⟨_, _, _, ns, rfl, sm, hq, by omega, hns, t0, t1⟩
    · rintro σ H' ⟨rest, stirred, v, ns, rfl, sm, hq, hlen, hns, _⟩
      exact ⟨_, rfl, q l ns H' sm hl hq hlen hns⟩
def spBag (K : PySem.W.Frag) : Sp := fun vs H Q _ => ∃ (a : Addr) (ns : List Int) (k : Int), vs = [.ref a, .int k] ∧ SqL K H a (ns.map V.int) ∧ 0 ≤ k ∧ ∀ (b : Addr) (H' : Hp), Same H H' → H b = none → BagAt K H' b → Q (.ref b) H'
theorem sc_law_bag : FnScope ["script", "k"] ["script", "k"] (defScope s_law_bag) := ⟨rfl, rfl, rfl, by decide +kernel, rfl, by decide +kernel, by decide +kernel⟩
theorem ok_bag {f : Addr} {fd : FuncData} (F : L2.Fun K "_law_bag" "_law_bag" s_law_bag f fd) (c_law_cell_at : Cal P w K mg base 1 "_law_cell_at" (spCell K)) (c_law_draws : Cal P w K mg base 1 "_law_draws" spDraws) : FnOk P w K mg base L2.CX0 2 f fd ["script", "k"] (spBag K) := by
  refine F.ok sc_law_bag (fun vs H Q E h => ?_) (fun cdv A outer s H vs Q E hr h => ?_)
  · obtain ⟨a, ns, k, rfl, _⟩ := h
    rfl
  · obtain ⟨a, ns, k, rfl, hs, h0, q⟩ := h
    refine ⟨_, (pss_one (ps_ret (pe_lst (pa_cons (pe_g c_law_draws hr (pa_cons (pe_g c_law_cell_at hr (pa_cons (pv 0) (pa_cons (pv 1) pa_nil))) (pa_cons pe_int (pa_cons pe_int pa_nil)))) (pa_cons pe_int pa_nil))))), ?_⟩
    refine ⟨_, rfl, _, rfl, a, ns, k, rfl, hs, h0, fun z => ⟨z, rfl, fun l ms H1 s1 nl hl hm hms => ?_⟩⟩
    refine ⟨by show 2 ≤ sizeLine; decide, fun b hb => ?_⟩
    exact q b _ (s1.trans (same_upd hb)) (s1.free hb) ⟨l, 0, ms, upd_same, by decide, SqL.of (same_upd hb _ _ hl), hm, hms⟩
def spBags (K : PySem.W.Frag) : Sp := fun vs H Q _ => ∃ (a : Addr) (ns : List Int) (n : Int), vs = [.ref a, .int n] ∧ SqL K H a (ns.map V.int) ∧ 1 ≤ n ∧ n ≤ 100 ∧
  ∀ (l : Addr) (bs : List Addr) (H' : Hp), Same H H' → H l = none → H' l = some (.lst (bs.map V.ref)) → (∀ b ∈ bs, BagAt K H' b) → Q (.ref l) H'
theorem sc_law_bags : FnScope ["script", "limit", "k"] ["script", "limit"] (defScope s_law_bags) := ⟨rfl, rfl, rfl, by decide +kernel, rfl, by decide +kernel, by decide +kernel⟩
theorem ok_bags {f : Addr} {fd : FuncData} (F : L2.Fun K "_law_bags" "_law_bags" s_law_bags f fd) (B : Bls mg) (c_law_bag : Cal P w K mg base 2 "_law_bag" (spBag K)) : FnOk P w K mg base L2.CX0 3 f fd ["script", "limit"] (spBags K) := by
  refine F.ok sc_law_bags (fun vs H Q E h => ?_) (fun cdv A outer s H vs Q E hr h => ?_)
  · obtain ⟨a, ns, n, rfl, _⟩ := h
    rfl
  · obtain ⟨a, ns, n, rfl, hs, h1, h2, q⟩ := h
    refine ⟨_, (pss_one (ps_ret (pe_lc (own := [("k", 2)]) (g := gName 2)  (tt := tYes) (by rfl) sc_law_bags.nd (pi_range1 (by rfl) B.range (pa_cons (pe_callB (call_max2 rfl) (by rfl) B.max (by decide +kernel) (pa_cons pe_int (pa_cons (pe_callB (call_min2 rfl) (by rfl) B.min (by decide +kernel) (pa_cons (pv 1) (pa_cons (pe_len B (pv 0)) pa_nil))) pa_nil))) pa_nil)) (blkOk_by (own := [("k", 2)]) (N := ["script", "limit", "k"]) (sc := defScope s_law_bags) (by decide +kernel)) (fun _ _ _ _ _ => by exact (pg_name (i := 2) sc_law_bags.nd rfl (Or.inl rfl))) (fun _ _ _ _ _ => by exact pts_nil) (fun _ _ _ _ _ => by exact (pe_g c_law_bag hr (pa_cons (pv 0) (pa_cons (pv 2) pa_nil))))))), ?_⟩
    refine ⟨_, rfl, _, rfl, a, _, rfl, .inl hs, _, _, rfl, _, _, rfl, _, rfl, ?_, ?_, fun D hD => ?_⟩
    · split <;> split <;> omega
    · split <;> split <;> omega
    refine lc_range (lo := 0) (n := Int.toNat _) (fun i H' => Same H H' ∧ ∃ bs : List Addr, H' D = some (.lst (bs.map V.ref)) ∧ bs.length = i ∧ ∀ b ∈ bs, BagAt K H' b) ⟨same_upd hD, [], upd_same, rfl, (fun b hb => by cases hb)⟩ ?_ ?_
    · rintro i H' hi ⟨sm, bs, hb, hl, hba⟩
      have i100 : i < 100 := by
        have e : ∀ m : Int, i < m.toNat → m ≤ 100 → i < 100 := fun m q1 q2 => by omega
        refine e _ hi ?_
        split <;> split <;> omega
      refine ⟨rfl, ?_⟩
      refine ⟨_, rfl, _, rfl, a, ns, _, rfl, sm.seq hs, by omega, fun b H1 s1 nb Ba => ⟨_, s1 _ _ hb, by rw [List.length_map]; exact small1000 (by omega), fun c o e => ?_, bs ++ [b], ?_, by rw [List.length_append, hl]; rfl, fun c hc => ?_⟩⟩
      · rw [upd_ne (ne_of_none e hD)]
        exact s1 _ _ (sm c o e)
      · rw [upd_same, List.map_append]
        rfl
      · have ev : Evo H1 (upd H1 D (.lst (bs.map V.ref ++ [V.ref b]))) → BagAt K (upd H1 D (.lst (bs.map V.ref ++ [V.ref b]))) c := fun ev => by
          rcases List.mem_append.mp hc with hc | hc
          · exact ((hba c hc).evo (Same.evo s1)).evo ev
          · have : c = b := by simpa using hc
            rw [this]; exact Ba.evo ev
        -- the new list is none that a bag stands on
        obtain ⟨l, i0, ms, g1, g2, g3, g4, g5⟩ : BagAt K H1 c := by
          rcases List.mem_append.mp hc with hc | hc
          · exact (hba c hc).evo (Same.evo s1)
          · have : c = b := by simpa using hc
            rw [this]; exact Ba
        have hb1 := s1 _ _ hb
        have ncD : c ≠ D := ne_of g1 hb1 (fun z => by
          have z' : [V.ref l, V.int i0] = bs.map V.ref := HO.lst.inj z
          exact refs_no l i0 z'.symm)
        refine ⟨l, i0, ms, by rw [upd_ne ncD]; exact g1, g2, ?_, g4, g5⟩
        rcases g3 with (g3 | ⟨o, g3⟩) | g3
        · have nlD : l ≠ D := fun z => by
            rw [z, hb1] at g3
            have z' : bs.map V.ref = ms.map V.int := HO.lst.inj (Option.some.inj g3)
            cases ms with
            | nil => simp at g4
            | cons _ _ =>
              cases bs with
              | nil => cases z'
              | cons _ _ => cases z'
          exact .inl (.inl (by rw [upd_ne nlD]; exact g3))
        · have nlD : l ≠ D := ne_of g3 hb1 (by intro z; cases z)
          exact .inl (.inr ⟨o, by rw [upd_ne nlD]; exact g3⟩)
        · exact .inr g3
    · rintro H' ⟨sm, bs, hb, hl, hba⟩
      exact q D bs H' sm hD hb hba
end
end Lp
namespace Lp
open PySem PySem.Spec PyProof.Rows L2
theorem evo_bag {H : Hp} {b l : Addr} {i j : Int} (h : H b = some (.lst [.ref l, .int i])) (hj : 0 ≤ j) : Evo H (upd H b (.lst [.ref l, .int j])) := fun a o e => by
  by_cases q : a = b
  · rw [q, h] at e
    cases e
    rw [q]
    exact .inr ⟨l, i, j, rfl, upd_same, fun _ => hj⟩
  · exact .inl (by rw [upd_ne q]; exact e)
section
variable {P : Program} {w : World} {K : PySem.W.Frag} {mg : Str → Option Value} {base : Heap}
def spTake (K : PySem.W.Frag) : Sp := fun vs H Q _ => ∃ (b : Addr) (m : Int), vs = [.ref b, .int m] ∧ BagAt K H b ∧ 0 < m ∧ ∀ (z : Int) (H' : Hp), Evo H H' → 0 ≤ z → z < m → Q (.int z) H'
theorem sc_law_take : FnScope ["bag", "many"] ["bag", "many"] (defScope s_law_take) := ⟨rfl, rfl, rfl, by decide +kernel, rfl, by decide +kernel, by decide +kernel⟩
theorem ok_take {f : Addr} {fd : FuncData} (F : L2.Fun K "_law_take" "_law_take" s_law_take f fd) (B : Bls mg) : FnOk P w K mg base L2.CX0 1 f fd ["bag", "many"] (spTake K) := by
  refine F.ok sc_law_take (fun vs H Q E h => ?_) (fun cdv A outer s H vs Q E hr h => ?_)
  · obtain ⟨b, m, rfl, _⟩ := h
    rfl
  · obtain ⟨b, m, rfl, ⟨l, i, ns, hb, i0, hs, hl, hns⟩, m0, q⟩ := h
    refine ⟨_, (pss_cons (ps_asg (pe_op op_add (pe_ix ix_list (pv 0) pe_int (fun _ _ => rfl)) pe_int) (pg_sub (pv 0) pe_int set_list))
      (pss_one (ps_ret (pe_op op_mod (pe_ix ix_list (pe_ix ix_list (pv 0) pe_int (fun _ _ => rfl)) (pe_op op_mod (pe_ix ix_list (pv 0) pe_int (fun _ _ => rfl)) (pe_len B (pe_ix ix_list (pv 0) pe_int (fun _ _ => rfl)))) (fun _ _ => rfl)) (pv 1))))), ?_⟩
    refine ⟨_, rfl, b, _, _, _, rfl, rfl, SqL.of hb, rfl, _, _, rfl, rfl, _, rfl, b, _, _, _, rfl, rfl, hb, rfl, ?_⟩
    have ev : Evo H (upd H b (.lst [.ref l, .int (i + 1)])) := evo_bag hb (by omega)
    have hb' : SqL K (upd H b (.lst [.ref l, .int (i + 1)])) b [.ref l, .int (i + 1)] := SqL.of upd_same
    have hs' := ev.ints hs
    have n0 := Int.emod_nonneg (i + 1) (show ((ns.map V.int).length : Int) ≠ 0 by rw [List.length_map]; omega)
    have n1 := Int.emod_lt_of_pos (i + 1) (show (0 : Int) < ((ns.map V.int).length : Int) by rw [List.length_map]; omega)
    have nk : ((i + 1) % ((ns.map V.int).length : Int)).toNat < ns.length := by rw [List.length_map] at n1 n0 ⊢; omega
    refine ⟨_, rfl, b, _, _, _, rfl, rfl, hb', rfl, _, rfl, b, _, _, _, rfl, rfl, hb', rfl, _, rfl, b, _, _, _, rfl, rfl, hb', rfl, l, _, rfl, .inl hs', _, _, rfl, rfl, by rw [List.length_map]; omega, ?_⟩
    refine ⟨l, _, _, _, rfl, rfl, hs', at_of (j := ((i + 1) % ((ns.map V.int).length : Int)).toNat) (by omega) (map_at (List.getElem?_eq_getElem nk)), _, rfl, _, _, rfl, rfl, m0, ?_⟩
    exact q _ _ ev (Int.emod_nonneg _ (by omega)) (Int.emod_lt_of_pos _ m0)
def spFar (K : PySem.W.Frag) : Sp := fun vs H Q _ => ∃ (b : Addr) (m : Int), vs = [.ref b, .int m] ∧ BagAt K H b ∧ 0 < m ∧ ∀ (z : Int) (H' : Hp), Evo H H' → 0 ≤ z → z < m → Q (.int z) H'
theorem sc_law_far_draw : FnScope ["bag", "many", "found", "much"] ["bag", "many"] (defScope s_law_far_draw) := ⟨rfl, rfl, rfl, by decide +kernel, rfl, by decide +kernel, by decide +kernel⟩
theorem ok_far {f : Addr} {fd : FuncData} (F : L2.Fun K "_law_far_draw" "_law_far_draw" s_law_far_draw f fd) (B : Bls mg) (c_law_take : Cal P w K mg base 1 "_law_take" (spTake K)) : FnOk P w K mg base L2.CX0 2 f fd ["bag", "many"] (spFar K) := by
  refine F.ok sc_law_far_draw (fun vs H Q E h => ?_) (fun cdv A outer s H vs Q E hr h => ?_)
  · obtain ⟨b, m, rfl, _⟩ := h
    rfl
  · obtain ⟨b, m, rfl, ba, m0, q⟩ := h
    refine ⟨_, (pss_cons (ps_par (i := 2) (j := 3) (by rfl) sc_law_far_draw.nd rfl rfl (by decide) rfl rfl (pa_cons pe_int (pa_cons (pv 1) pa_nil)) (by rfl))
      (pss_cons (ps_while PassesOwn.never (pt_cmpR op_gt (pv 3) pe_int (nomark _))
      (pss_one (ps_par (i := 2) (j := 3) (by rfl) sc_law_far_draw.nd rfl rfl (by decide) rfl rfl (pa_cons (pe_op op_add (pe_op op_mul pe_int (pv 2)) (pe_g c_law_take hr (pa_cons (pv 0) (pa_cons pe_int pa_nil)))) (pa_cons (pe_op op_fdiv (pv 3) pe_int) pa_nil)) (by rfl))))
      (pss_one (ps_ret (pe_ix ix_list (pe_lst (pa_cons (pe_op op_mod (pv 2) (pv 1)) (pa_cons pe_int (pa_cons (pe_op op_sub (pv 1) pe_int) (pa_cons (pe_op op_mod (pv 2) (pv 1)) pa_nil))))) (pe_g c_law_take hr (pa_cons (pv 0) (pa_cons pe_int pa_nil))) (fun _ _ => rfl)))))), ?_⟩
    refine ⟨_, rfl, _, _, rfl, ?_⟩
    refine ⟨fun k σ H' => ∃ found much : Int, σ = [some (.ref b), some (.int m), some (.int found), some (.int much)] ∧ Evo H H' ∧ k = much.toNat, ⟨_, 0, m, rfl, Evo.refl H, rfl⟩, ?_⟩
    rintro k σ H' ⟨found, much, rfl, ev, rfl⟩
    refine ⟨_, rfl, _, _, rfl, rfl, _, rfl, ?_⟩
    refine ite2 (fun c => ?_) (fun c => ?_)
    · have pos := of_decide_eq_true c
      refine ⟨fun σ' H'' => ∃ m', m' < much.toNat ∧ ∃ found much : Int, σ' = [some (.ref b), some (.int m), some (.int found), some (.int much)] ∧ Evo H H'' ∧ m' = much.toNat, fun _ _ h => h, ?_⟩
      refine ⟨_, rfl, _, _, rfl, rfl, .inl ⟨by decide, by decide⟩, _, rfl, b, _, rfl, ba.evo ev, by decide, fun z H2 e2 z0 z1 => ⟨_, _, rfl, rfl, _, rfl, _, _, rfl, rfl, ⟨by decide, by decide⟩, _, _, rfl, ?_⟩⟩
      refine ⟨(much / 1000).toNat, ?_, _, _, rfl, ev.trans e2, rfl⟩
      have : much / 1000 < much := by omega
      omega
    · have md : ∀ z : Int, 0 ≤ z % m ∧ z % m < m := fun z => ⟨Int.emod_nonneg _ (by omega), Int.emod_lt_of_pos _ m0⟩
      refine ⟨_, rfl, _, rfl, _, _, rfl, rfl, m0, _, rfl, _, _, rfl, rfl, _, rfl, _, rfl, _, _, rfl, rfl, m0, by show 4 ≤ sizeLine; decide, fun p hp => ?_⟩
      have s1 : Same H' (upd H' p (.lst [.int (found % m), .int 0, .int (m - 1), .int (found % m)])) := same_upd hp
      refine ⟨_, rfl, b, _, rfl, (ba.evo ev).evo (Same.evo s1), by decide, fun z H2 e2 z0 z1 => ?_⟩
      have hl : H2 p = some (.lst ([found % m, 0, m - 1, found % m].map V.int)) := e2.intsH (ns := [found % m, 0, m - 1, found % m]) upd_same
      have e3 : Evo H H2 := (ev.trans (Same.evo s1)).trans e2
      have zk : z.toNat < [found % m, 0, m - 1, found % m].length := by show z.toNat < 4; omega
      refine ⟨p, _, _, _, rfl, rfl, SqL.of hl, at_of (j := z.toNat) (by omega) (map_at (List.getElem?_eq_getElem zk)), ?_⟩
      have bd : ∀ y ∈ [found % m, 0, m - 1, found % m], 0 ≤ y ∧ y < m := fun y hy => by
        have := md found
        simp only [List.mem_cons, List.not_mem_nil, or_false] at hy
        omega
      have := bd _ (List.getElem_mem zk)
      exact q _ _ e3 this.1 this.2
end
end Lp
namespace Lp
open PySem PySem.Spec PyProof.Rows L2
/-- what is drawn below a bound -/
def Lim (far : Int) (t : List Guest) : Prop := ∀ g ∈ t, 0 ≤ g.1 ∧ (g.1 < far ∨ g.1 < 4) ∧ ∀ m, g.2 = some m → 0 ≤ m ∧ (m < far ∨ m < 6)
theorem evo_kept {H H1 : Hp} {l : Addr} {o : HO} (e : Evo H H1) (hl : H l = none) : Evo H (upd H1 l o) := fun a u h => by
  have : a ≠ l := ne_of_none h hl
  rw [upd_ne this]
  exact e a u h
theorem Lim.ok {far : Int} {t : List Guest} (h : Lim far t) (hf : far ≤ 1000000000000000001) (h1 : 1 ≤ t.length) (h8 : t.length ≤ 8) : TabOk t := ⟨h1, h8, fun g hg => by
  obtain ⟨a, b, c⟩ := h g hg
  refine ⟨a, by omega, fun m hm => ?_⟩
  obtain ⟨d, e⟩ := c m hm
  exact ⟨d, by omega⟩⟩
section
variable {P : Program} {w : World} {K : PySem.W.Frag} {mg : Str → Option Value} {base : Heap}
def spLawTable (K : PySem.W.Frag) : Sp := fun vs H Q _ => ∃ (b : Addr) (seats far : Int), vs = [.ref b, .int seats, .int far] ∧ BagAt K H b ∧ 0 < seats ∧ seats ≤ 8 ∧ 0 < far ∧
  ∀ (a : Addr) (t : List Guest) (H' : Hp), Evo H H' → TableAt K H' a t → 1 ≤ t.length → (t.length : Int) ≤ seats → Lim far t → Q (.ref a) H'
theorem sc_law_table : FnScope ["bag", "seats", "far", "found", "same", "turn", "courtesy", "enough"] ["bag", "seats", "far"] (defScope s_law_table) := ⟨rfl, rfl, rfl, by decide +kernel, rfl, by decide +kernel, by decide +kernel⟩
theorem ok_ltable {f : Addr} {fd : FuncData} (F : L2.Fun K "_law_table" "_law_table" s_law_table f fd) (B : Bls mg) (c_law_take : Cal P w K mg base 1 "_law_take" (spTake K)) (c_law_far_draw : Cal P w K mg base 2 "_law_far_draw" (spFar K)) : FnOk P w K mg base L2.CX0 3 f fd ["bag", "seats", "far"] (spLawTable K) := by
  refine F.ok sc_law_table (fun vs H Q E h => ?_) (fun cdv A outer s H vs Q E hr h => ?_)
  · obtain ⟨b, seats, far, rfl, _⟩ := h
    rfl
  · obtain ⟨b, seats, far, rfl, ba, p0, p8, pf, q⟩ := h
    refine ⟨_, (pss_cons (ps_par (i := 3) (j := 4) (by rfl) sc_law_table.nd rfl rfl (by decide) rfl rfl (pa_cons (pe_lst pa_nil) (pa_cons (pe_g c_law_far_draw hr (pa_cons (pv 0) (pa_cons (pv 2) pa_nil))) pa_nil)) (by rfl))
      (pss_cons (ps_for PassesOwn.never rfl (pi_range1 (by rfl) B.range (pa_cons (pe_op op_add pe_int (pe_g c_law_take hr (pa_cons (pv 0) (pa_cons (pv 1) pa_nil)))) pa_nil)) (pg_name (i := 5) sc_law_table.nd rfl (Or.inl rfl))
      (pss_cons (ps_set (i := 6) sc_law_table.nd rfl (Or.inl rfl) (pe_ix ix_list (pe_lst (pa_cons pe_int (pa_cons (pe_g c_law_take hr (pa_cons (pv 0) (pa_cons pe_int pa_nil))) (pa_cons (pe_g c_law_far_draw hr (pa_cons (pv 0) (pa_cons (pv 2) pa_nil))) (pa_cons (pv 4) pa_nil))))) (pe_g c_law_take hr (pa_cons (pv 0) (pa_cons pe_int pa_nil))) (fun _ _ => rfl)))
      (pss_cons (ps_set (i := 7) sc_law_table.nd rfl (Or.inl rfl) (pe_ix ix_list (pe_lst (pa_cons pe_non (pa_cons pe_non (pa_cons (pe_g c_law_far_draw hr (pa_cons (pv 0) (pa_cons (pv 2) pa_nil))) (pa_cons (pe_g c_law_take hr (pa_cons (pv 0) (pa_cons pe_int pa_nil))) pa_nil))))) (pe_g c_law_take hr (pa_cons (pv 0) (pa_cons pe_int pa_nil))) (fun _ _ => rfl)))
      (pss_one (ps_expr (pe_bm PySem.F.plainAttrs_list PySem.F.slot_list_append PySem.F.type_list_append mt_append (pv 3) (pa_cons (pe_tup (pa_cons (pv 6) (pa_cons (pv 7) pa_nil))) pa_nil)))))))
      (pss_one (ps_ret (pe_callTy call_tuple_of (by rfl) B.tuple (by decide +kernel) (pa_cons (pv 3) pa_nil)))))), ?_⟩
    -- found, same
    refine ⟨Nat.zero_le _, fun l hl => ?_⟩
    have e0 : Evo H (upd H l (.lst [])) := evo_kept (Evo.refl H) hl
    refine ⟨_, rfl, _, rfl, b, far, rfl, ba.evo e0, pf, fun same H1 e1 s0 s1 => ⟨_, _, rfl, ?_⟩⟩
    have hl1 : H1 l = some (.lst (([] : List Addr).map V.ref)) := e1.refsH (ps := []) upd_same
    -- for turn in range(1 + ..)
    refine ⟨_, rfl, _, rfl, b, seats, rfl, ba.evo (e0.trans e1), p0, fun n H2 e2 n0 n1 => ⟨_, _, rfl, rfl, _, rfl, by omega, by omega, ?_⟩⟩
    refine for_range (lo := 0) (n := (1 + n).toNat) (fun i σ H' => ∃ (ps : List Addr) (t : List Guest) (v5 v6 v7 : Option V), σ = [some (.ref b), some (.int seats), some (.int far), some (.ref l), some (.int same), v5, v6, v7] ∧ Evo H H' ∧
      H' l = some (.lst (ps.map V.ref)) ∧ ps.length = t.length ∧ (∀ (i : Nat) (g : Guest) (p : Addr), t[i]? = some g → ps[i]? = some p → H' p = some (.tup [.int g.1, optV g.2])) ∧ t.length = i ∧ Lim far t)
      ⟨[], [], none, none, none, rfl, (e0.trans e1).trans e2, e2.refsH hl1, rfl, (fun i g p h => by cases h), rfl, (fun g h => by cases h)⟩ ?_ ?_
    · rintro i σ H3 hi ⟨ps, t, v5, v6, v7, rfl, e3, hl3, hpt, hg, ht, lim⟩
      -- courtesy
      refine ⟨_, rfl, b, 4, rfl, ba.evo e3, by decide, fun c1 H4 e4 c10 c11 => ?_⟩
      have e34 := e3.trans e4
      refine ⟨_, rfl, _, rfl, b, far, rfl, ba.evo e34, pf, fun c2 H5 e5 c20 c21 => ?_⟩
      have e35 := e34.trans e5
      refine ⟨_, rfl, by show 4 ≤ sizeLine; decide, fun x hx => ?_⟩
      have sx : Same H5 (upd H5 x (.lst [.int 0, .int c1, .int c2, .int same])) := same_upd hx
      have e36 := e35.trans (Same.evo sx)
      refine ⟨_, rfl, b, 4, rfl, ba.evo e36, by decide, fun z H6 e6 z0 z1 => ?_⟩
      have hx6 : H6 x = some (.lst ([0, c1, c2, same].map V.int)) := e6.intsH (ns := [0, c1, c2, same]) upd_same
      have zk : z.toNat < [0, c1, c2, same].length := by show z.toNat < 4; omega
      refine ⟨x, _, _, _, rfl, rfl, SqL.of hx6, at_of (j := z.toNat) (by omega) (map_at (List.getElem?_eq_getElem zk)), ?_⟩
      have cb : ∀ y ∈ [0, c1, c2, same], 0 ≤ y ∧ (y < far ∨ y < 4) := fun y hy => by
        simp only [List.mem_cons, List.not_mem_nil, or_false] at hy
        omega
      have cy := cb _ (List.getElem_mem zk)
      generalize [0, c1, c2, same][z.toNat] = cc at cy
      have e37 := e36.trans e6
      have hl6 : H6 l = some (.lst (ps.map V.ref)) := e6.refsH ((Same.evo sx).refsH (e5.refsH (e4.refsH hl3)))
      have t6 : ∀ (p : Addr) (xs : List V), H3 p = some (.tup xs) → H6 p = some (.tup xs) := fun p xs h => e6.tupH ((Same.evo sx).tupH (e5.tupH (e4.tupH h)))
      -- enough
      refine ⟨_, rfl, _, rfl, b, far, rfl, ba.evo e37, pf, fun c3 H7 e7 c30 c31 => ?_⟩
      have e38 := e37.trans e7
      refine ⟨_, rfl, b, 6, rfl, ba.evo e38, by decide, fun c4 H8 e8 c40 c41 => ?_⟩
      have e39 := e38.trans e8
      refine ⟨by show 4 ≤ sizeLine; decide, fun y hy => ?_⟩
      have sy : Same H8 (upd H8 y (.lst [.non, .non, .int c3, .int c4])) := same_upd hy
      have e40 := e39.trans (Same.evo sy)
      refine ⟨_, rfl, b, 4, rfl, ba.evo e40, by decide, fun u H9 e9 u0 u1 => ?_⟩
      have hy9 : H9 y = some (.lst ([none, none, some c3, some c4].map optV)) := e9.keep upd_same fun _ _ z => by have := HO.lst.inj z; cases this
      have uk : u.toNat < [none, none, some c3, some c4].length := by show u.toNat < 4; omega
      refine ⟨y, _, _, _, rfl, rfl, SqL.of hy9, at_of (j := u.toNat) (by omega) (map_at (List.getElem?_eq_getElem uk)), ?_⟩
      have eb : ∀ o ∈ [none, none, some c3, some c4], ∀ m, o = some m → 0 ≤ m ∧ (m < far ∨ m < 6) := fun o ho m hm => by
        simp only [List.mem_cons, List.not_mem_nil, or_false] at ho
        rcases ho with h | h | h | h <;> rw [h] at hm <;> cases hm <;> omega
      have ey := eb _ (List.getElem_mem uk)
      generalize [none, none, some c3, some c4][u.toNat] = ee at ey
      have e41 := e40.trans e9
      have hl9 : H9 l = some (.lst (ps.map V.ref)) := e9.refsH ((Same.evo sy).refsH (e8.refsH (e7.refsH hl6)))
      have t9 : ∀ (p : Addr) (xs : List V), H3 p = some (.tup xs) → H9 p = some (.tup xs) := fun p xs h => e9.tupH ((Same.evo sy).tupH (e8.tupH (e7.tupH (t6 p xs h))))
      -- found.append((courtesy, enough))
      refine ⟨_, rfl, .inl ⟨rfl, _, SqL.of hl9⟩, _, rfl, _, rfl, by show 2 ≤ sizeLine; decide, fun r hrr => ?_⟩
      have sr : Same H9 (upd H9 r (.tup [.int cc, optV ee])) := same_upd hrr
      have hl10 := sr _ _ hl9
      refine ⟨l, _, _, rfl, rfl, hl10, by rw [List.length_map]; exact small1000 (by omega), ?_⟩
      refine ⟨ps ++ [r], t ++ [(cc, ee)], _, _, _, rfl, evo_kept (e41.trans (Same.evo sr)) hl, ?_, by rw [List.length_append, List.length_append, hpt]; rfl, fun j g p h1 h2 => ?_, by rw [List.length_append, ht]; rfl, fun g hgm => ?_⟩
      · rw [upd_same, List.map_append]
        rfl
      · have lt : ∀ p' : Addr, (upd H9 r (.tup [.int cc, optV ee])) p' = some (.tup [.int g.1, optV g.2]) → (upd (upd H9 r (.tup [.int cc, optV ee])) l (.lst (ps.map V.ref ++ [.ref r]))) p' = some (.tup [.int g.1, optV g.2]) := fun p' h => by
          rw [upd_ne (ne_of h hl10 (by intro z; cases z))]
          exact h
        refine lt p ?_
        by_cases hj : j < t.length
        · rw [List.getElem?_append_left hj] at h1
          rw [List.getElem?_append_left (by omega)] at h2
          exact sr _ _ (t9 _ _ (hg j g p h1 h2))
        · have ej : j = t.length := by
            have := (List.getElem?_eq_some_iff.mp h1).1
            rw [List.length_append, List.length_singleton] at this
            omega
          rw [List.getElem?_append_right (by omega), ej, Nat.sub_self] at h1
          rw [List.getElem?_append_right (by omega), ej, hpt, Nat.sub_self] at h2
          cases h1
          cases h2
          exact upd_same
      · rcases List.mem_append.mp hgm with h | h
        · exact lim g h
        · have : g = (cc, ee) := by simpa using h
          rw [this]
          exact ⟨cy.1, cy.2, ey⟩
    · rintro σ H3 ⟨ps, t, v5, v6, v7, rfl, e3, hl3, hpt, hg, ht, lim⟩
      refine ⟨_, rfl, l, _, rfl, .inl ⟨SqL.of hl3, fun r hrr => ?_⟩⟩
      have sr : Same H3 (upd H3 r (.tup (ps.map V.ref))) := same_upd hrr
      exact q r t _ (e3.trans (Same.evo sr)) (.mk (ps := ps) (SqT.of upd_same) hpt fun i g p h1 h2 => SqT.of (sr _ _ (hg i g p h1 h2))) (by omega) (by omega) lim
end
end Lp
namespace Lp
open PySem PySem.Spec PyProof.Rows L2
def spLaw (K : PySem.W.Frag) : Sp := fun vs H Q _ => ∃ (a : Addr) (ns : List Int), vs = [.ref a] ∧ SqL K H a (ns.map V.int) ∧ ns.length ≤ 63 ∧ ∀ H', Q (.bl true) H'
/-- a constant as the last argument -/
theorem arg1 {σ : L2.St} {H : Hp} {v : V} {k : List V → Hp → Prop} (h : k [v] H) : tCons (tC v) tNil σ H k := h
theorem for_range0 {n : Nat} {g : TG} {tb : TS} {D : Ends} {σ : L2.St} {H : Hp} (Pv : Nat → L2.St → Hp → Prop) (h0 : Pv 0 σ H)
    (hs : ∀ i σ H, i < n → Pv i σ H → g (.int (i : Int)) σ H fun σ2 H2 => tb { D with nx := Pv (i + 1), ct := Pv (i + 1), bk := D.nx } σ2 H2) (hd : ∀ σ H, Pv n σ H → D.nx σ H) :
    ∃ W : Nat → Nat → L2.St → Hp → Prop, (∃ m, W 0 m σ H) ∧ ∀ i m σ H, W i m σ H →
      ((Itr 0 n).stop i H ∧ D.nx σ H) ∨ ((Itr 0 n).go i H ∧ ∃ N : L2.St → Hp → Prop, (∀ σ' H', N σ' H' → ∃ m', m' < m ∧ W (i + 1) m' σ' H') ∧ ∀ x H', (Itr 0 n).yld i H x H' → g x σ H' fun σ2 H2 => tb { D with nx := N, ct := N, bk := D.nx } σ2 H2) :=
  for_range (lo := 0) Pv h0 (fun i σ H hi p => by rw [Int.zero_add]; exact hs i σ H hi p) hd
theorem nx_mk {nx ct bk : L2.St → Hp → Prop} {rt : VK} {σ : L2.St} {H : Hp} (h : nx σ H) : Ends.nx { nx := nx, ct := ct, bk := bk, rt := rt } σ H := h
theorem c_mk {v : V} {σ : L2.St} {H : Hp} {Q : VK} (h : Q v H) : tC v σ H Q := h
theorem no_ne {x : V} {Q : Bool → Hp → Prop} {H : Hp} (h : Q false H) : Q (!decide (x = x)) H := by
  rw [decide_eq_true rfl]
  exact h
theorem next_mk {nx ct bk : L2.St → Hp → Prop} {rt : VK} {σ : L2.St} {H : Hp} (h : nx σ H) : tNext { nx := nx, ct := ct, bk := bk, rt := rt } σ H := h
/-- «if T: ..» where T is false, whatever stands behind it -/
theorem guardS {T : TT} {A B C : TS} {D : Ends} {σ : L2.St} {H : Hp} (hx : ∀ Q' : Bool → Hp → Prop, (∀ H', Same H H' → Q' false H') → T σ H Q') (hq : ∀ H', Same H H' → B { D with nx := C D } σ H') : tSeq (tIfS T A B) C D σ H :=
  hx _ fun H' s => iteF (hq H' s)
theorem guardE {T : TT} {A B : TS} {D : Ends} {σ : L2.St} {H : Hp} (hx : ∀ Q' : Bool → Hp → Prop, (∀ H', Same H H' → Q' false H') → T σ H Q') (hq : ∀ H', Same H H' → B D σ H') : tIfS T A B D σ H :=
  hx _ fun H' s => iteF (hq H' s)
section
variable {K : PySem.W.Frag} {H : Hp}
theorem ne_same {a b : Addr} {ns : List Int} {Q : VK} (h1 : SqL K H a (ns.map V.int)) (h2 : SqL K H b (ns.map V.int)) (q : Q (.bl false) H) : rNeD K (.ref a) (.ref b) H Q :=
  ne_ints h1 h2 (by rw [decide_eq_true rfl]; exact q)
theorem eq_same {a b : Addr} {ns : List Int} {Q : VK} (h1 : SqL K H a (ns.map V.int)) (h2 : SqL K H b (ns.map V.int)) (q : Q (.bl true) H) : rEqD K (.ref a) (.ref b) H Q :=
  eq_ints h1 h2 (by rw [decide_eq_true rfl]; exact q)
/-- a list of ints is a list -/
theorem isi_ints {a : Addr} {ns : List Int} {Q : VK} (h : SqL K H a (ns.map V.int)) (q : Q (.bl true) H) : rIsi K [.ref a, .ty "list"] H Q :=
  ⟨_, _, _, _, _, rfl, .ty _, tyx (dp_ints h), kit_l _ _, q⟩
/-- x != x -/
theorem if_ne {x : V} {A B : Prop} (h : B) : if (!decide (x = x)) = true then A else B := by
  rw [decide_eq_true rfl]
  exact iteF h
end
end Lp
namespace Lp
open PySem PySem.Spec PyProof.Rows L2
section
variable {P : Program} {w : World} {K : PySem.W.Frag} {mg : Str → Option Value} {base : Heap}
theorem sc_law_from : FnScope ["thing", "least", "top"] ["thing", "least", "top"] (defScope s_law_from) := ⟨rfl, rfl, rfl, by decide +kernel, rfl, by decide +kernel, by decide +kernel⟩
theorem ok_law_from {f : Addr} {fd : FuncData} (F : L2.Fun K "_law_from" "_law_from" s_law_from f fd) (B : Bls mg) : FnOk P w K mg base L2.CX0 1 f fd ["thing", "least", "top"] (spWithin K) := by
  refine F.ok sc_law_from (fun vs H Q E h => ?_) (fun cdv A outer s H vs Q E hr h => ?_)
  · obtain ⟨v, lo, hi, d, rfl, _⟩ := h
    rfl
  · obtain ⟨v, lo, hi, d, rfl, hd, k⟩ := h
    refine ⟨_, (pss_one (ps_ret (pe_and (pe_isi B (pv 0) (pe_tInt B)) (pe_and (pe_not (pe_isi B (pv 0) (pe_tBool B))) (pe_and (pe_cmpR op_le (pv 1) (pv 0) (nomark _)) (pe_one (pe_cmpR op_le (pv 0) (pv 2) (nomark _)))))))), ?_⟩
    refine ⟨_, rfl, ?_⟩
    cases hd with
    | non => exact ⟨_, _, _, _, _, rfl, .ty _, tyx .non, kit_i _ _, _, rfl, iteF k⟩
    | str x => exact ⟨_, _, _, _, _, rfl, .ty _, tyx (.str x), kit_i _ _, _, rfl, iteF k⟩
    | lst hs ha => exact ⟨_, _, _, _, _, rfl, .ty _, tyx (.lst hs ha), kit_i _ _, _, rfl, iteF k⟩
    | tup hs ha => exact ⟨_, _, _, _, _, rfl, .ty _, tyx (.tup hs ha), kit_i _ _, _, rfl, iteF k⟩
    | bl b =>
      refine ⟨_, _, _, _, _, rfl, .ty _, tyx (.bl b), kit_i _ _, ?_⟩
      refine ⟨_, rfl, iteT ⟨_, rfl, ?_⟩⟩
      refine ⟨_, _, _, _, _, rfl, .ty _, tyx (.bl b), kit_b _ _, ?_⟩
      exact ⟨_, rfl, _, rfl, iteF k⟩
    | int i =>
      refine ⟨_, _, _, _, _, rfl, .ty _, tyx (.int i), kit_i _ _, ?_⟩
      refine ⟨_, rfl, iteT ⟨_, rfl, ?_⟩⟩
      refine ⟨_, _, _, _, _, rfl, .ty _, tyx (.int i), kit_b _ _, ?_⟩
      refine ⟨_, rfl, _, rfl, iteT ?_⟩
      refine ⟨_, rfl, _, rfl, _, _, rfl, rfl, _, rfl, ?_⟩
      have k' : Q (.bl (decide (lo ≤ i) && decide (i ≤ hi))) H := k
      refine ite2 (fun c => ?_) (fun c => ?_)
      · rw [c, Bool.true_and] at k'
        exact ⟨_, rfl, _, rfl, _, _, rfl, rfl, k'⟩
      · rw [Bool.eq_false_iff.mpr c, Bool.false_and] at k'
        exact k'
theorem sc_law_is_table : FnScope ["thing", "one"] ["thing"] (defScope s_law_is_table) := ⟨rfl, rfl, rfl, by decide +kernel, rfl, by decide +kernel, by decide +kernel⟩
theorem ok_law_is_table {f : Addr} {fd : FuncData} (F : L2.Fun K "_law_is_table" "_law_is_table" s_law_is_table f fd) (B : Bls mg) (c_law_from : Cal P w K mg base 1 "_law_from" (spWithin K)) : FnOk P w K mg base L2.CX0 2 f fd ["thing"] (spTable K) := by
  refine F.ok sc_law_is_table (fun vs H Q E h => ?_) (fun cdv A outer s H vs Q E hr h => ?_)
  · obtain ⟨v, d, rfl, _⟩ := h
    rfl
  · obtain ⟨v, d, rfl, hd, k⟩ := h
    refine ⟨_, (pss_cons (ps_if (PW.pt (pw_or (pt_not (pt_val (pe_isi B (pv 0) (pe_tTuple B)))) (pw_or1 (pt_not (pt_chain op_le op_le pe_int (pe_len B (pv 0)) pe_int)))))
      (pss_one (ps_ret pe_bl))
      pss_nil)
      (pss_cons (ps_for PassesOwn.never rfl (pi_tup (pv 0)) (pg_name (i := 1) sc_law_is_table.nd rfl (Or.inl rfl))
      (pss_cons (ps_if (PW.pt (pw_or (pt_not (pt_val (pe_isi B (pv 1) (pe_tTuple B)))) (pw_or (pt_cmpR op_ne (pe_len B (pv 1)) pe_int (nomark _)) (pw_or1 (pt_not (pt_val (pe_g c_law_from hr (pa_cons (pe_ix ix_tup (pv 1) pe_int (fun _ _ => rfl)) (pa_cons pe_int (pa_cons (pe_op op_pow pe_int pe_int) pa_nil))))))))))
      (pss_one (ps_ret pe_bl))
      pss_nil)
      (pss_one (ps_if (PW.pt (pw_and (pt_cmpR op_notN (pe_ix ix_tup (pv 1) pe_int (fun _ _ => rfl)) pe_non (nomark _)) (pw_and1 (pt_not (pt_val (pe_g c_law_from hr (pa_cons (pe_ix ix_tup (pv 1) pe_int (fun _ _ => rfl)) (pa_cons pe_int (pa_cons (pe_op op_pow pe_int pe_int) pa_nil)))))))))
      (pss_one (ps_ret pe_bl))
      pss_nil))))
      (pss_one (ps_ret pe_bl)))), ?_⟩
    cases hd with
    | non => exact ⟨_, rfl, _, _, _, _, _, rfl, .ty _, tyx .non, kit_t _ _, _, rfl, iteT (iteT (k _ (Same.refl _)))⟩
    | bl b => exact ⟨_, rfl, _, _, _, _, _, rfl, .ty _, tyx (.bl b), kit_t _ _, _, rfl, iteT (iteT (k _ (Same.refl _)))⟩
    | int i => exact ⟨_, rfl, _, _, _, _, _, rfl, .ty _, tyx (.int i), kit_t _ _, _, rfl, iteT (iteT (k _ (Same.refl _)))⟩
    | str x => exact ⟨_, rfl, _, _, _, _, _, rfl, .ty _, tyx (.str x), kit_t _ _, _, rfl, iteT (iteT (k _ (Same.refl _)))⟩
    | lst hs ha => exact ⟨_, rfl, _, _, _, _, _, rfl, .ty _, tyx (.lst hs ha), kit_t _ _, _, rfl, iteT (iteT (k _ (Same.refl _)))⟩
    | @tup a xs ds hs ha =>
      refine ⟨_, rfl, _, _, _, _, _, rfl, .ty _, tyx (.tup hs ha), kit_t _ _, _, rfl, iteF ?_⟩
      have lx := dpAll_len ha
      have kF : tableD (.tuple ds) = false → Q (.bl false) H := fun e => by
        have := k H (Same.refl _)
        rwa [e] at this
      have bad : ∀ (j : Nat) (dj : PyData), ds[j]? = some dj → guestD dj = false → tableD (.tuple ds) = false := fun j dj h1 h2 => by
        show (decide (1 ≤ ds.length) && decide (ds.length ≤ 8) && ds.all guestD) = false
        rw [show ds.all guestD = false from List.all_eq_false.mpr ⟨dj, List.mem_of_getElem? h1, by rw [h2]; exact Bool.false_ne_true⟩, Bool.and_false]
      refine ⟨_, rfl, a, xs, rfl, .inr hs, _, _, rfl, rfl, _, rfl, ?_⟩
      by_cases l1 : ¬ (1 : Int) ≤ (xs.length : Int)
      · rw [decide_eq_false l1]
        refine iteF ⟨_, rfl, iteT (kF ?_)⟩
        show (decide (1 ≤ ds.length) && _ && _) = false
        rw [decide_eq_false (show ¬ 1 ≤ ds.length by omega)]
        rfl
      have l1 := Decidable.of_not_not l1
      rw [decide_eq_true l1]
      refine iteT ⟨_, _, rfl, rfl, _, rfl, ?_⟩
      by_cases l8 : ¬ (xs.length : Int) ≤ 8
      · rw [decide_eq_false l8]
        refine iteT (kF ?_)
        show (decide (1 ≤ ds.length) && decide (ds.length ≤ 8) && _) = false
        rw [decide_eq_false (show ¬ ds.length ≤ 8 by omega), Bool.and_false]
        rfl
      have l8 := Decidable.of_not_not l8
      rw [decide_eq_true l8]
      refine iteF (next_mk ⟨_, rfl, a, rfl, ⟨_, hs⟩, ?_⟩)
      refine for_tup (K := K) (a := a) (xs := xs) (fun j σ H' => ∃ v1 : Option V, σ = [some (.ref a), v1] ∧ H' = H ∧ ∀ i di, i < j → ds[i]? = some di → guestD di = true) ⟨none, rfl, rfl, fun i di h => absurd h (Nat.not_lt_zero _)⟩ ?_ ?_ ?_
      · rintro j σ H' hj ⟨v1, rfl, rfl, _⟩
        exact hs
      · rintro j x σ H' hx ⟨v1, rfl, rfl, all⟩
        obtain ⟨dj, hdj, hd⟩ := dpAll_get ha hx
        have go : guestD dj = true → ∀ i di, i < j + 1 → ds[i]? = some di → guestD di = true := fun e i di hi h => by
          by_cases z : i = j
          · subst z
            rw [hdj] at h
            cases h
            exact e
          · exact all i di (by omega) h
        have out : guestD dj = false → Q (.bl false) H' := fun e => kF (bad j dj hdj e)
        cases hd with
        | non => exact ⟨_, rfl, _, _, _, _, _, rfl, .ty _, tyx .non, kit_t _ _, _, rfl, iteT (iteT (out rfl))⟩
        | bl b => exact ⟨_, rfl, _, _, _, _, _, rfl, .ty _, tyx (.bl b), kit_t _ _, _, rfl, iteT (iteT (out rfl))⟩
        | int i => exact ⟨_, rfl, _, _, _, _, _, rfl, .ty _, tyx (.int i), kit_t _ _, _, rfl, iteT (iteT (out rfl))⟩
        | str x => exact ⟨_, rfl, _, _, _, _, _, rfl, .ty _, tyx (.str x), kit_t _ _, _, rfl, iteT (iteT (out rfl))⟩
        | lst g1 g2 => exact ⟨_, rfl, _, _, _, _, _, rfl, .ty _, tyx (.lst g1 g2), kit_t _ _, _, rfl, iteT (iteT (out rfl))⟩
        | @tup a2 ys es hs2 ha2 =>
          refine ⟨_, rfl, _, _, _, _, _, rfl, .ty _, tyx (.tup hs2 ha2), kit_t _ _, _, rfl, iteF ?_⟩
          refine ⟨_, rfl, a2, ys, rfl, .inr hs2, rfl, _, rfl, ?_⟩
          cases ha2 with
          | nil => exact iteT (iteT (out rfl))
          | @cons v0 vs0 d0 ds0 h0 ha2 =>
            cases ha2 with
            | nil => exact iteT (iteT (out rfl))
            | @cons v1' vs1 d1 ds1 h1 ha2 =>
              cases ha2 with
              | @cons v2 vs2 d2 ds2 h2 ha2 =>
                have e : (decide (V.int ((v0 :: v1' :: v2 :: vs2).length : Nat) = V.int 2)) = false := by
                  rw [dec_int]
                  simp
                  omega
                rw [e]
                exact iteT (iteT (out rfl))
              | nil =>
                have p18 : (10 : Int) ^ (18 : Int).toNat = 1000000000000000000 := by decide
                refine iteF ⟨_, rfl, a2, _, _, v0, rfl, rfl, hs2, rfl, _, _, rfl, rfl, ⟨by decide, by decide, by decide⟩, v0, 0, 1000000000000000000, d0, by show [v0, V.int 0, V.int (10 ^ (18 : Int).toNat)] = _; rw [p18], h0, _, rfl, ?_⟩
                have eg : guestD (.tuple [d0, d1]) = (withinD 0 1000000000000000000 d0 && enoughD d1) := rfl
                rw [eg] at go out
                cases ew : withinD 0 1000000000000000000 d0 with
                | false =>
                  rw [ew, Bool.false_and] at out
                  exact iteT (out rfl)
                | true =>
                  rw [ew, Bool.true_and] at go out
                  refine iteF (next_mk ?_)
                  refine ⟨_, rfl, a2, _, _, v1', rfl, rfl, hs2, rfl, rfl, _, rfl, ?_⟩
                  have fin : enoughD d1 = withinD 0 1000000000000000000 d1 → (withinD 0 1000000000000000000 d1 = false → Q (.bl false) H') ∧ (withinD 0 1000000000000000000 d1 = true → ∀ i di, i < j + 1 → ds[i]? = some di → guestD di = true) := fun e => ⟨fun z => out (e.trans z), fun z => go (e.trans z)⟩
                  cases h1 with
                  | non => exact iteF (iteF ⟨_, rfl, rfl, go rfl⟩)
                  | bl b => exact iteT ⟨_, rfl, a2, _, _, _, rfl, rfl, hs2, rfl, _, _, rfl, rfl, ⟨by decide, by decide, by decide⟩, .bl b, 0, 1000000000000000000, .bool b, by show [_, V.int 0, V.int (10 ^ (18 : Int).toNat)] = _; rw [p18], .bl b, _, rfl, iteT (out rfl)⟩
                  | str b => exact iteT ⟨_, rfl, a2, _, _, _, rfl, rfl, hs2, rfl, _, _, rfl, rfl, ⟨by decide, by decide, by decide⟩, .str b, 0, 1000000000000000000, .str b, by show [_, V.int 0, V.int (10 ^ (18 : Int).toNat)] = _; rw [p18], .str b, _, rfl, iteT (out rfl)⟩
                  | lst g1 g2 => exact iteT ⟨_, rfl, a2, _, _, _, rfl, rfl, hs2, rfl, _, _, rfl, rfl, ⟨by decide, by decide, by decide⟩, .ref _, 0, 1000000000000000000, _, by show [_, V.int 0, V.int (10 ^ (18 : Int).toNat)] = _; rw [p18], .lst g1 g2, _, rfl, iteT (out rfl)⟩
                  | tup g1 g2 => exact iteT ⟨_, rfl, a2, _, _, _, rfl, rfl, hs2, rfl, _, _, rfl, rfl, ⟨by decide, by decide, by decide⟩, .ref _, 0, 1000000000000000000, _, by show [_, V.int 0, V.int (10 ^ (18 : Int).toNat)] = _; rw [p18], .tup g1 g2, _, rfl, iteT (out rfl)⟩
                  | int b =>
                    refine iteT ⟨_, rfl, a2, _, _, _, rfl, rfl, hs2, rfl, _, _, rfl, rfl, ⟨by decide, by decide, by decide⟩, .int b, 0, 1000000000000000000, .int b, by show [_, V.int 0, V.int (10 ^ (18 : Int).toNat)] = _; rw [p18], .int b, _, rfl, ?_⟩
                    obtain ⟨f1, f2⟩ := fin rfl
                    cases eb : withinD 0 1000000000000000000 (.int b) with
                    | false => exact iteT (f1 eb)
                    | true => exact iteF ⟨_, rfl, rfl, f2 eb⟩
      · rintro σ H' ⟨v1, rfl, rfl, all⟩
        have := k H' (Same.refl _)
        rw [show tableD (.tuple ds) = true by
          show (decide (1 ≤ ds.length) && decide (ds.length ≤ 8) && ds.all guestD) = true
          rw [decide_eq_true (show 1 ≤ ds.length by omega), decide_eq_true (show ds.length ≤ 8 by omega), List.all_eq_true.mpr fun di hdi => by
            obtain ⟨i, hi⟩ := List.mem_iff_getElem?.mp hdi
            exact all i di (by rw [lx]; exact (List.getElem?_eq_some_iff.mp hi).1) hi]
          rfl] at this
        exact this
end
end Lp
namespace Lp
theorem rep_flat {α : Type} (a : α) : ∀ n : Nat, (List.replicate n [a]).flatten = List.replicate n a
  | 0 => rfl
  | n + 1 => by
    rw [List.replicate_succ, List.replicate_succ, List.flatten_cons, rep_flat a n]
    rfl
end Lp
namespace Lp
open PySem PySem.Spec PyProof.Rows L2
theorem cut_take (xs : List V) (p : Nat) : cutV xs none (some (p : Int)) = xs.take p := by
  unfold cutV
  rw [HT.sIx_none, HT.sIx_nat, Nat.sub_zero, List.drop_zero, ← List.take_take, List.take_length]
theorem cut_drop (xs : List V) (p : Nat) : cutV xs (some (p : Int)) none = xs.drop p := by
  unfold cutV
  rw [HT.sIx_none, HT.sIx_nat]
  by_cases h : p ≤ xs.length
  · rw [Nat.min_eq_left h, List.take_of_length_le (by rw [List.length_drop]; exact Nat.le_refl _)]
  · rw [Nat.min_eq_right (by omega), Nat.sub_self, List.take_zero, List.drop_eq_nil_of_le (by omega)]
theorem nil_mk {σ : L2.St} {H : Hp} {k : List V → Hp → Prop} (h : k [] H) : tNil σ H k := h
theorem np_mk {σ : L2.St} {H : Hp} {k : Option Int → Hp → Prop} (h : k none H) : tNoPart σ H k := h
section
variable {P : Program} {w : World} {K : PySem.W.Frag} {mg : Str → Option Value} {base : Heap} {H : Hp} {Q : VK}
/-- t + u of any tuples -/
theorem cat_any {a b : Addr} {xs ys : List V} (h1 : SqT K H a xs) (h2 : SqT K H b ys) (hl : xs.length + ys.length ≤ 1000) (q : ∀ (r : Addr) (H' : Hp), Same H H' → SqT K H' r (xs ++ ys) → Q (.ref r) H') : rCatA K (.ref a) (.ref b) H Q :=
  ⟨a, b, xs, ys, rfl, rfl, h1, h2, Nat.le_of_lt (small1000 hl), fun e => q b H (Same.refl _) (by rw [e]; exact h2), fun _ e => q a H (Same.refl _) (by rw [e, List.append_nil]; exact h1),
    fun _ _ p hp => q p _ (same_upd hp) (SqT.of upd_same)⟩
theorem cat_list {a b : Addr} {xs ys : List V} (h1 : H a = some (.lst xs)) (h2 : H b = some (.lst ys)) (hl : xs.length + ys.length ≤ 1000) (q : ∀ (r : Addr) (H' : Hp), Same H H' → H' r = some (.lst (xs ++ ys)) → Q (.ref r) H') : rCat (.ref a) (.ref b) H Q :=
  ⟨a, b, xs, ys, rfl, rfl, h1, h2, Nat.le_of_lt (small1000 hl), fun p hp => q p _ (same_upd hp) upd_same⟩
theorem rep_list {a : Addr} {x : V} {n : Int} (h1 : H a = some (.lst [x])) (h0 : 0 ≤ n) (hn : n ≤ 1000) (q : ∀ (r : Addr) (H' : Hp), Same H H' → H' r = some (.lst (List.replicate n.toNat x)) → Q (.ref r) H') : rRep (.ref a) (.int n) H Q :=
  ⟨a, n, _, rfl, rfl, h1, by omega, by omega, by
    show 1 * n.toNat ≤ sizeLine
    exact Nat.le_of_lt (small1000 (by omega)), fun p hp => q p _ (same_upd hp) (by rw [upd_same, rep_flat])⟩
theorem cut_list {a : Addr} {xs : List V} {lo hi : Option Int} (h : SqL K H a xs) (q : ∀ (r : Addr) (H' : Hp), Same H H' → H' r = some (.lst (cutV xs lo hi)) → Q (.ref r) H') : rSlL K (.ref a) lo hi H Q :=
  ⟨a, xs, rfl, h, fun p hp => q p _ (same_upd hp) upd_same⟩
theorem sorted_any {a : Addr} {ns : List Int} (h : SqL K H a (ns.map V.int)) (hl : ns.length < 64) (q : ∀ (ns' : List Int) (r : Addr) (H' : Hp), ns'.Perm ns → ns'.Pairwise (· ≤ ·) → Same H H' → H' r = some (.lst (ns'.map V.int)) → Q (.ref r) H') : rSorted K [.ref a] H Q :=
  ⟨a, ns, rfl, h, hl, fun ns' p h1 h2 hp => q ns' p _ h1 h2 (same_upd hp) upd_same⟩
/-- the tuples of the guests, at any addresses -/
theorem TableAt.ofRefs {a : Addr} {xs : List V} {t : List Guest} (h : SqT K H a xs) (hl : xs.length = t.length) (hg : ∀ (i : Nat) (g : Guest), t[i]? = some g → ∃ p : Addr, xs[i]? = some (.ref p) ∧ SqT K H p [.int g.1, optV g.2]) : TableAt K H a t := by
  have key : ∀ (xs : List V) (t : List Guest), xs.length = t.length → (∀ (i : Nat) (g : Guest), t[i]? = some g → ∃ p : Addr, xs[i]? = some (.ref p) ∧ SqT K H p [.int g.1, optV g.2]) → ∃ ps : List Addr, xs = ps.map V.ref ∧ ps.length = t.length ∧ ∀ (i : Nat) (g : Guest) (p : Addr), t[i]? = some g → ps[i]? = some p → SqT K H p [.int g.1, optV g.2] := by
    intro xs
    induction xs with
    | nil =>
      intro t hl _
      exact ⟨[], rfl, hl, fun _ _ _ _ h => by cases h⟩
    | cons x xs ih =>
      intro t hl hg
      cases t with
      | nil => cases hl
      | cons g t =>
        obtain ⟨ps, e1, e2, e3⟩ := ih t (by simpa using hl) fun i g' h => hg (i + 1) g' h
        obtain ⟨p, e4, e5⟩ := hg 0 g rfl
        cases e4
        refine ⟨p :: ps, by rw [e1]; rfl, by simp [e2], fun i g' p' h1 h2 => ?_⟩
        cases i with
        | zero => cases h1; cases h2; exact e5
        | succ i => exact e3 i g' p' h1 h2
  obtain ⟨ps, rfl, e2, e3⟩ := key xs t hl hg
  exact .mk h e2 e3
end
end Lp
namespace Lp
open PySem PySem.Spec PyProof.Rows L2
section
variable {K : PySem.W.Frag} {H : Hp}
theorem dpAll_app : ∀ {vs us : List V} {ds es : List PyData}, DpAll K H vs ds → DpAll K H us es → DpAll K H (vs ++ us) (ds ++ es)
  | _, _, _, _, .nil, h => h
  | _, _, _, _, .cons h1 h2, h => .cons h1 (dpAll_app h2 h)
theorem dpAll_take : ∀ {vs : List V} {ds : List PyData} (n : Nat), DpAll K H vs ds → DpAll K H (vs.take n) (ds.take n)
  | _, _, 0, _ => by rw [List.take_zero, List.take_zero]; exact .nil
  | _, _, _ + 1, .nil => .nil
  | _, _, n + 1, .cons h1 h2 => .cons h1 (dpAll_take n h2)
theorem dpAll_drop : ∀ {vs : List V} {ds : List PyData} (n : Nat), DpAll K H vs ds → DpAll K H (vs.drop n) (ds.drop n)
  | _, _, 0, h => h
  | _, _, _ + 1, .nil => .nil
  | _, _, n + 1, .cons _ h2 => dpAll_drop n h2
theorem dpAll_set : ∀ {vs : List V} {ds : List PyData} {v : V} {d : PyData} (n : Nat), DpAll K H vs ds → Dp K H v d → DpAll K H (vs.set n v) (ds.set n d)
  | _, _, _, _, _, .nil, _ => .nil
  | _, _, _, _, 0, .cons _ h2, h => .cons h h2
  | _, _, _, _, n + 1, .cons h1 h2, h => .cons h1 (dpAll_set n h2 h)
end
/-- data no deeper than r, no wider than n -/
inductive Okd (n : Nat) : Nat → PyData → Prop
  | non {r : Nat} : Okd n r .none
  | bl {r : Nat} (b : Bool) : Okd n r (.bool b)
  | int {r : Nat} (i : Int) : Okd n r (.int i)
  | str {r : Nat} (x : Str) : Okd n r (.str x)
  | lst {r : Nat} {ds : List PyData} (hl : ds.length ≤ n) (h : ∀ d ∈ ds, Okd n r d) : Okd n (r + 1) (.list ds)
  | tup {r : Nat} {ds : List PyData} (hl : ds.length ≤ n) (h : ∀ d ∈ ds, Okd n r d) : Okd n (r + 1) (.tuple ds)
theorem Okd.mono {n m : Nat} (hn : n ≤ m) : ∀ {r s : Nat} {d : PyData}, Okd n r d → r ≤ s → Okd m s d := fun {r s d} h => by
  induction h generalizing s with
  | non => exact fun _ => .non
  | bl b => exact fun _ => .bl b
  | int i => exact fun _ => .int i
  | str x => exact fun _ => .str x
  | lst hl _ ih =>
    intro hs
    obtain ⟨s', rfl⟩ : ∃ s', s = s' + 1 := ⟨s - 1, by omega⟩
    exact .lst (Nat.le_trans hl hn) fun d hd => ih d hd (by omega)
  | tup hl _ ih =>
    intro hs
    obtain ⟨s', rfl⟩ : ∃ s', s = s' + 1 := ⟨s - 1, by omega⟩
    exact .tup (Nat.le_trans hl hn) fun d hd => ih d hd (by omega)
section
variable {P : Program} {w : World} {K : PySem.W.Frag} {mg : Str → Option Value} {base : Heap}
def spOdd (K : PySem.W.Frag) : Sp := fun vs H Q _ => ∃ (pk : Addr) (ns : List Int), vs = [.ref pk] ∧ SqL K H pk (ns.map V.int) ∧ 2 ≤ ns.length ∧ ∀ (v : V) (d : PyData) (H' : Hp), Same H H' → (∀ H2 : Hp, (∀ b o, H' b = some o → H b = none → H2 b = some o) → Dp K H2 v d) → Okd 2 2 d → Q v H'
theorem sc_law_odd : FnScope ["picks", "odd"] ["picks"] (defScope s_law_odd) := ⟨rfl, rfl, rfl, by decide +kernel, rfl, by decide +kernel, by decide +kernel⟩
theorem ok_law_odd {f : Addr} {fd : FuncData} (F : L2.Fun K "_law_odd" "_law_odd" s_law_odd f fd) (B : Bls mg) : FnOk P w K mg base L2.CX0 1 f fd ["picks"] (spOdd K) := by
  refine F.ok sc_law_odd (fun vs H Q E h => ?_) (fun cdv A outer s H vs Q E hr h => ?_)
  · obtain ⟨pk, ns, rfl, _⟩ := h
    rfl
  · obtain ⟨pk, ns, rfl, hpk, l2, k⟩ := h
    refine ⟨_, (pss_cons (ps_set (i := 1) sc_law_odd.nd rfl (Or.inl rfl) (pe_lst (pa_cons pe_non (pa_cons pe_bl (pa_cons pe_bl (pa_cons (pe_un un_neg pe_int) (pa_cons pe_int (pa_cons pe_int (pa_cons pe_int (pa_cons pe_int (pa_cons (pe_op op_pow pe_int pe_int) (pa_cons (pe_op op_add (pe_op op_pow pe_int pe_int) pe_int) (pa_cons (pe_op op_pow pe_int pe_int) (pa_cons pe_str (pa_cons pe_str (pa_cons pe_str pa_nil))))))))))))))))
      (pss_cons (ps_set (i := 1) sc_law_odd.nd rfl (Or.inl rfl) (pe_op op_cat (pv 1) (pe_lst (pa_cons (pe_tup pa_nil) (pa_cons (pe_lst pa_nil) (pa_cons (pe_tup (pa_cons pe_int pa_nil)) (pa_cons (pe_lst (pa_cons pe_int pa_nil)) (pa_cons (pe_tup (pa_cons pe_int (pa_cons pe_int pa_nil))) (pa_cons (pe_tup (pa_cons pe_int (pa_cons pe_int pa_nil))) pa_nil)))))))))
      (pss_cons (ps_set (i := 1) sc_law_odd.nd rfl (Or.inl rfl) (pe_op op_cat (pv 1) (pe_lst (pa_cons (pe_tup (pa_cons pe_int (pa_cons pe_non pa_nil))) (pa_cons (pe_tup (pa_cons (pe_tup (pa_cons pe_int (pa_cons pe_non pa_nil))) pa_nil)) (pa_cons (pe_lst (pa_cons (pe_tup (pa_cons pe_int (pa_cons pe_non pa_nil))) pa_nil)) (pa_cons (pe_tup (pa_cons (pe_tup (pa_cons pe_int (pa_cons pe_int pa_nil))) (pa_cons (pe_tup (pa_cons pe_int (pa_cons pe_non pa_nil))) pa_nil))) (pa_cons (pe_tup (pa_cons pe_non pa_nil)) pa_nil))))))))
      (pss_one (ps_ret (pe_ix ix_list (pv 1) (pe_op op_mod (pe_op op_add (pe_ix ix_list (pv 0) pe_int (fun _ _ => rfl)) (pe_op op_mul pe_int (pe_ix ix_list (pv 0) pe_int (fun _ _ => rfl)))) (pe_len B (pv 1))) (fun _ _ => rfl))))))), ?_⟩
    refine ⟨_, rfl, _, _, rfl, rfl, ⟨by decide, by decide, by decide⟩, _, _, rfl, rfl, ⟨by decide, by decide, by decide⟩, _, _, rfl, rfl, _, _, rfl, rfl, ⟨by decide, by decide, by decide⟩, by show 14 ≤ sizeLine; decide, fun q1 hq1 => ?_⟩
    have s1 := same_upd (o := .lst [V.non, .bl true, .bl false, .int (-1), .int 0, .int 1, .int 9, .int 30, .int (10 ^ (18 : Int).toNat), .int (10 ^ (18 : Int).toNat + 1), .int (10 ^ (30 : Int).toNat), .str "", .str "a", .str "0"]) hq1
    have g1 : (upd H q1 (.lst [V.non, .bl true, .bl false, .int (-1), .int 0, .int 1, .int 9, .int 30, .int (10 ^ (18 : Int).toNat), .int (10 ^ (18 : Int).toNat + 1), .int (10 ^ (30 : Int).toNat), .str "", .str "a", .str "0"])) q1 = some (.lst _) := upd_same
    generalize upd H q1 (.lst [V.non, .bl true, .bl false, .int (-1), .int 0, .int 1, .int 9, .int 30, .int (10 ^ (18 : Int).toNat), .int (10 ^ (18 : Int).toNat + 1), .int (10 ^ (30 : Int).toNat), .str "", .str "a", .str "0"]) = H1 at s1 g1 ⊢
    -- the second six
    refine nx_mk ⟨_, rfl, ?_⟩
    refine ⟨by show 0 ≤ sizeLine; decide, fun a2 ha2 => ?_⟩
    have s2 := same_upd (o := .tup []) ha2
    have g2 : (upd H1 a2 (.tup [])) a2 = some (.tup []) := upd_same
    generalize upd H1 a2 (.tup []) = H2 at s2 g2 ⊢
    refine ⟨by show 0 ≤ sizeLine; decide, fun a3 ha3 => ?_⟩
    have s3 := same_upd (o := .lst []) ha3
    have g3 : (upd H2 a3 (.lst [])) a3 = some (.lst []) := upd_same
    generalize upd H2 a3 (.lst []) = H3 at s3 g3 ⊢
    refine ⟨by show 1 ≤ sizeLine; decide, fun a4 ha4 => ?_⟩
    have s4 := same_upd (o := .tup [V.int 0]) ha4
    have g4 : (upd H3 a4 (.tup [V.int 0])) a4 = some (.tup [V.int 0]) := upd_same
    generalize upd H3 a4 (.tup [V.int 0]) = H4 at s4 g4 ⊢
    refine ⟨by show 1 ≤ sizeLine; decide, fun a5 ha5 => ?_⟩
    have s5 := same_upd (o := .lst [V.int 0]) ha5
    have g5 : (upd H4 a5 (.lst [V.int 0])) a5 = some (.lst [V.int 0]) := upd_same
    generalize upd H4 a5 (.lst [V.int 0]) = H5 at s5 g5 ⊢
    refine ⟨by show 2 ≤ sizeLine; decide, fun a6 ha6 => ?_⟩
    have s6 := same_upd (o := .tup [V.int 0, V.int 1]) ha6
    have g6 : (upd H5 a6 (.tup [V.int 0, V.int 1])) a6 = some (.tup [V.int 0, V.int 1]) := upd_same
    generalize upd H5 a6 (.tup [V.int 0, V.int 1]) = H6 at s6 g6 ⊢
    refine ⟨by show 2 ≤ sizeLine; decide, fun a7 ha7 => ?_⟩
    have s7 := same_upd (o := .tup [V.int 1, V.int 0]) ha7
    have g7 : (upd H6 a7 (.tup [V.int 1, V.int 0])) a7 = some (.tup [V.int 1, V.int 0]) := upd_same
    generalize upd H6 a7 (.tup [V.int 1, V.int 0]) = H7 at s7 g7 ⊢
    refine ⟨by show 6 ≤ sizeLine; decide, fun a8 ha8 => ?_⟩
    have s8 := same_upd (o := .lst [V.ref a2, V.ref a3, V.ref a4, V.ref a5, V.ref a6, V.ref a7]) ha8
    have g8 : (upd H7 a8 (.lst [V.ref a2, V.ref a3, V.ref a4, V.ref a5, V.ref a6, V.ref a7])) a8 = some (.lst [V.ref a2, V.ref a3, V.ref a4, V.ref a5, V.ref a6, V.ref a7]) := upd_same
    generalize upd H7 a8 (.lst [V.ref a2, V.ref a3, V.ref a4, V.ref a5, V.ref a6, V.ref a7]) = H8 at s8 g8 ⊢
    refine cat_list ((Same.trans (Same.trans (Same.trans (Same.trans (Same.trans (Same.trans (s2) s3) s4) s5) s6) s7) s8) _ _ g1) g8 (by show 14 + 6 ≤ 1000; decide) fun c1 H20 s20 hc1 => ?_
    refine nx_mk ⟨_, rfl, ?_⟩
    refine ⟨by show 2 ≤ sizeLine; decide, fun a21 ha21 => ?_⟩
    have s21 := same_upd (o := .tup [V.int 0, V.non]) ha21
    have g21 : (upd H20 a21 (.tup [V.int 0, V.non])) a21 = some (.tup [V.int 0, V.non]) := upd_same
    generalize upd H20 a21 (.tup [V.int 0, V.non]) = H21 at s21 g21 ⊢
    refine ⟨by show 2 ≤ sizeLine; decide, fun a22 ha22 => ?_⟩
    have s22 := same_upd (o := .tup [V.int 0, V.non]) ha22
    have g22 : (upd H21 a22 (.tup [V.int 0, V.non])) a22 = some (.tup [V.int 0, V.non]) := upd_same
    generalize upd H21 a22 (.tup [V.int 0, V.non]) = H22 at s22 g22 ⊢
    refine ⟨by show 1 ≤ sizeLine; decide, fun a23 ha23 => ?_⟩
    have s23 := same_upd (o := .tup [V.ref a22]) ha23
    have g23 : (upd H22 a23 (.tup [V.ref a22])) a23 = some (.tup [V.ref a22]) := upd_same
    generalize upd H22 a23 (.tup [V.ref a22]) = H23 at s23 g23 ⊢
    refine ⟨by show 2 ≤ sizeLine; decide, fun a24 ha24 => ?_⟩
    have s24 := same_upd (o := .tup [V.int 0, V.non]) ha24
    have g24 : (upd H23 a24 (.tup [V.int 0, V.non])) a24 = some (.tup [V.int 0, V.non]) := upd_same
    generalize upd H23 a24 (.tup [V.int 0, V.non]) = H24 at s24 g24 ⊢
    refine ⟨by show 1 ≤ sizeLine; decide, fun a25 ha25 => ?_⟩
    have s25 := same_upd (o := .lst [V.ref a24]) ha25
    have g25 : (upd H24 a25 (.lst [V.ref a24])) a25 = some (.lst [V.ref a24]) := upd_same
    generalize upd H24 a25 (.lst [V.ref a24]) = H25 at s25 g25 ⊢
    refine ⟨by show 2 ≤ sizeLine; decide, fun a26 ha26 => ?_⟩
    have s26 := same_upd (o := .tup [V.int 0, V.int 1]) ha26
    have g26 : (upd H25 a26 (.tup [V.int 0, V.int 1])) a26 = some (.tup [V.int 0, V.int 1]) := upd_same
    generalize upd H25 a26 (.tup [V.int 0, V.int 1]) = H26 at s26 g26 ⊢
    refine ⟨by show 2 ≤ sizeLine; decide, fun a27 ha27 => ?_⟩
    have s27 := same_upd (o := .tup [V.int 1, V.non]) ha27
    have g27 : (upd H26 a27 (.tup [V.int 1, V.non])) a27 = some (.tup [V.int 1, V.non]) := upd_same
    generalize upd H26 a27 (.tup [V.int 1, V.non]) = H27 at s27 g27 ⊢
    refine ⟨by show 2 ≤ sizeLine; decide, fun a28 ha28 => ?_⟩
    have s28 := same_upd (o := .tup [V.ref a26, V.ref a27]) ha28
    have g28 : (upd H27 a28 (.tup [V.ref a26, V.ref a27])) a28 = some (.tup [V.ref a26, V.ref a27]) := upd_same
    generalize upd H27 a28 (.tup [V.ref a26, V.ref a27]) = H28 at s28 g28 ⊢
    refine ⟨by show 1 ≤ sizeLine; decide, fun a29 ha29 => ?_⟩
    have s29 := same_upd (o := .tup [V.non]) ha29
    have g29 : (upd H28 a29 (.tup [V.non])) a29 = some (.tup [V.non]) := upd_same
    generalize upd H28 a29 (.tup [V.non]) = H29 at s29 g29 ⊢
    refine ⟨by show 5 ≤ sizeLine; decide, fun a30 ha30 => ?_⟩
    have s30 := same_upd (o := .lst [V.ref a21, V.ref a23, V.ref a25, V.ref a28, V.ref a29]) ha30
    have g30 : (upd H29 a30 (.lst [V.ref a21, V.ref a23, V.ref a25, V.ref a28, V.ref a29])) a30 = some (.lst [V.ref a21, V.ref a23, V.ref a25, V.ref a28, V.ref a29]) := upd_same
    generalize upd H29 a30 (.lst [V.ref a21, V.ref a23, V.ref a25, V.ref a28, V.ref a29]) = H30 at s30 g30 ⊢
    refine cat_list ((Same.trans (Same.trans (Same.trans (Same.trans (Same.trans (Same.trans (Same.trans (Same.trans (Same.trans (s21) s22) s23) s24) s25) s26) s27) s28) s29) s30) _ _ hc1) g30 (by show 20 + 5 ≤ 1000; decide) fun c2 H40 s40 hc2 => ?_
    refine nx_mk ?_
    have sAll : Same H H40 := Same.trans s1 (Same.trans (Same.trans (Same.trans (Same.trans (Same.trans (Same.trans (Same.trans (Same.trans (Same.trans (Same.trans (Same.trans (Same.trans (Same.trans (Same.trans (Same.trans (Same.trans (Same.trans (Same.trans (s2) s3) s4) s5) s6) s7) s8) s20) s21) s22) s23) s24) s25) s26) s27) s28) s29) s30) s40)
    have hpk40 := (Same.evo sAll).ints hpk
    have f2 : H a2 = none := s1.free ha2
    have t2 := Same.trans s1 s2
    have f3 : H a3 = none := t2.free ha3
    have t3 := Same.trans t2 s3
    have f4 : H a4 = none := t3.free ha4
    have t4 := Same.trans t3 s4
    have f5 : H a5 = none := t4.free ha5
    have t5 := Same.trans t4 s5
    have f6 : H a6 = none := t5.free ha6
    have t6 := Same.trans t5 s6
    have f7 : H a7 = none := t6.free ha7
    have t7 := Same.trans t6 s7
    have t8 := Same.trans t7 s8
    have t20 := Same.trans t8 s20
    have f21 : H a21 = none := t20.free ha21
    have t21 := Same.trans t20 s21
    have f22 : H a22 = none := t21.free ha22
    have t22 := Same.trans t21 s22
    have f23 : H a23 = none := t22.free ha23
    have t23 := Same.trans t22 s23
    have f24 : H a24 = none := t23.free ha24
    have t24 := Same.trans t23 s24
    have f25 : H a25 = none := t24.free ha25
    have t25 := Same.trans t24 s25
    have f26 : H a26 = none := t25.free ha26
    have t26 := Same.trans t25 s26
    have f27 : H a27 = none := t26.free ha27
    have t27 := Same.trans t26 s27
    have f28 : H a28 = none := t27.free ha28
    have t28 := Same.trans t27 s28
    have f29 : H a29 = none := t28.free ha29
    have t29 := Same.trans t28 s29
    have t30 := Same.trans t29 s30
    have t40 := Same.trans t30 s40
    have k2 := (Same.trans (Same.trans (Same.trans (Same.trans (Same.trans (Same.trans (Same.trans (Same.trans (Same.trans (Same.trans (Same.trans (Same.trans (Same.trans (Same.trans (Same.trans (Same.trans (Same.trans (s3) s4) s5) s6) s7) s8) s20) s21) s22) s23) s24) s25) s26) s27) s28) s29) s30) s40) _ _ g2
    have k3 := (Same.trans (Same.trans (Same.trans (Same.trans (Same.trans (Same.trans (Same.trans (Same.trans (Same.trans (Same.trans (Same.trans (Same.trans (Same.trans (Same.trans (Same.trans (Same.trans (s4) s5) s6) s7) s8) s20) s21) s22) s23) s24) s25) s26) s27) s28) s29) s30) s40) _ _ g3
    have k4 := (Same.trans (Same.trans (Same.trans (Same.trans (Same.trans (Same.trans (Same.trans (Same.trans (Same.trans (Same.trans (Same.trans (Same.trans (Same.trans (Same.trans (Same.trans (s5) s6) s7) s8) s20) s21) s22) s23) s24) s25) s26) s27) s28) s29) s30) s40) _ _ g4
    have k5 := (Same.trans (Same.trans (Same.trans (Same.trans (Same.trans (Same.trans (Same.trans (Same.trans (Same.trans (Same.trans (Same.trans (Same.trans (Same.trans (Same.trans (s6) s7) s8) s20) s21) s22) s23) s24) s25) s26) s27) s28) s29) s30) s40) _ _ g5
    have k6 := (Same.trans (Same.trans (Same.trans (Same.trans (Same.trans (Same.trans (Same.trans (Same.trans (Same.trans (Same.trans (Same.trans (Same.trans (Same.trans (s7) s8) s20) s21) s22) s23) s24) s25) s26) s27) s28) s29) s30) s40) _ _ g6
    have k7 := (Same.trans (Same.trans (Same.trans (Same.trans (Same.trans (Same.trans (Same.trans (Same.trans (Same.trans (Same.trans (Same.trans (Same.trans (s8) s20) s21) s22) s23) s24) s25) s26) s27) s28) s29) s30) s40) _ _ g7
    have k21 := (Same.trans (Same.trans (Same.trans (Same.trans (Same.trans (Same.trans (Same.trans (Same.trans (Same.trans (s22) s23) s24) s25) s26) s27) s28) s29) s30) s40) _ _ g21
    have k22 := (Same.trans (Same.trans (Same.trans (Same.trans (Same.trans (Same.trans (Same.trans (Same.trans (s23) s24) s25) s26) s27) s28) s29) s30) s40) _ _ g22
    have k23 := (Same.trans (Same.trans (Same.trans (Same.trans (Same.trans (Same.trans (Same.trans (s24) s25) s26) s27) s28) s29) s30) s40) _ _ g23
    have k24 := (Same.trans (Same.trans (Same.trans (Same.trans (Same.trans (Same.trans (s25) s26) s27) s28) s29) s30) s40) _ _ g24
    have k25 := (Same.trans (Same.trans (Same.trans (Same.trans (Same.trans (s26) s27) s28) s29) s30) s40) _ _ g25
    have k26 := (Same.trans (Same.trans (Same.trans (Same.trans (s27) s28) s29) s30) s40) _ _ g26
    have k27 := (Same.trans (Same.trans (Same.trans (s28) s29) s30) s40) _ _ g27
    have k28 := (Same.trans (Same.trans (s29) s30) s40) _ _ g28
    have k29 := (Same.trans (s30) s40) _ _ g29
    have DA : ∀ HN : Hp, (∀ b o, H40 b = some o → H b = none → HN b = some o) → DpAll K HN ([V.non, .bl true, .bl false, .int (-1), .int 0, .int 1, .int 9, .int 30, .int (10 ^ (18 : Int).toNat), .int (10 ^ (18 : Int).toNat + 1), .int (10 ^ (30 : Int).toNat), .str "", .str "a", .str "0"] ++ [V.ref a2, V.ref a3, V.ref a4, V.ref a5, V.ref a6, V.ref a7] ++ [V.ref a21, V.ref a23, V.ref a25, V.ref a28, V.ref a29]) ([PyData.none, .bool true, .bool false, .int (-1), .int 0, .int 1, .int 9, .int 30, .int (10 ^ (18 : Int).toNat), .int (10 ^ (18 : Int).toNat + 1), .int (10 ^ (30 : Int).toNat), .str "", .str "a", .str "0"] ++ ([.tuple [], .list [], .tuple [.int 0], .list [.int 0], .tuple [.int 0, .int 1], .tuple [.int 1, .int 0]] : List PyData) ++ ([.tuple [.int 0, .none], .tuple [.tuple [.int 0, .none]], .list [.tuple [.int 0, .none]], .tuple [.tuple [.int 0, .int 1], .tuple [.int 1, .none]], .tuple [.none]] : List PyData)) := fun HN hn => dpAll_app (dpAll_app (.cons .non (.cons (.bl true) (.cons (.bl false) (.cons (.int (-1)) (.cons (.int 0) (.cons (.int 1) (.cons (.int 9) (.cons (.int 30) (.cons (.int _) (.cons (.int _) (.cons (.int _) (.cons (.str _) (.cons (.str _) (.cons (.str _) .nil)))))))))))))) (.cons (.tup (SqT.of (hn _ _ k2 f2)) .nil) (.cons (.lst (SqL.of (hn _ _ k3 f3)) .nil) (.cons (.tup (SqT.of (hn _ _ k4 f4)) (.cons (.int 0) .nil)) (.cons (.lst (SqL.of (hn _ _ k5 f5)) (.cons (.int 0) .nil)) (.cons (.tup (SqT.of (hn _ _ k6 f6)) (.cons (.int 0) (.cons (.int 1) .nil))) (.cons (.tup (SqT.of (hn _ _ k7 f7)) (.cons (.int 1) (.cons (.int 0) .nil))) .nil))))))) (.cons (.tup (SqT.of (hn _ _ k21 f21)) (.cons (.int 0) (.cons .non .nil))) (.cons (.tup (SqT.of (hn _ _ k23 f23)) (.cons (.tup (SqT.of (hn _ _ k22 f22)) (.cons (.int 0) (.cons .non .nil))) .nil)) (.cons (.lst (SqL.of (hn _ _ k25 f25)) (.cons (.tup (SqT.of (hn _ _ k24 f24)) (.cons (.int 0) (.cons .non .nil))) .nil)) (.cons (.tup (SqT.of (hn _ _ k28 f28)) (.cons (.tup (SqT.of (hn _ _ k26 f26)) (.cons (.int 0) (.cons (.int 1) .nil))) (.cons (.tup (SqT.of (hn _ _ k27 f27)) (.cons (.int 1) (.cons .non .nil))) .nil))) (.cons (.tup (SqT.of (hn _ _ k29 f29)) (.cons .non .nil)) .nil)))))
    have hc2' : H40 c2 = some (.lst ([V.non, .bl true, .bl false, .int (-1), .int 0, .int 1, .int 9, .int 30, .int (10 ^ (18 : Int).toNat), .int (10 ^ (18 : Int).toNat + 1), .int (10 ^ (30 : Int).toNat), .str "", .str "a", .str "0"] ++ [V.ref a2, V.ref a3, V.ref a4, V.ref a5, V.ref a6, V.ref a7] ++ [V.ref a21, V.ref a23, V.ref a25, V.ref a28, V.ref a29])) := hc2
    have OK2 : ∀ d ∈ ([PyData.none, .bool true, .bool false, .int (-1), .int 0, .int 1, .int 9, .int 30, .int (10 ^ (18 : Int).toNat), .int (10 ^ (18 : Int).toNat + 1), .int (10 ^ (30 : Int).toNat), .str "", .str "a", .str "0"] ++ ([.tuple [], .list [], .tuple [.int 0], .list [.int 0], .tuple [.int 0, .int 1], .tuple [.int 1, .int 0]] : List PyData) ++ ([.tuple [.int 0, .none], .tuple [.tuple [.int 0, .none]], .list [.tuple [.int 0, .none]], .tuple [.tuple [.int 0, .int 1], .tuple [.int 1, .none]], .tuple [.none]] : List PyData)), Okd 2 2 d := fun d hd => by
      simp only [List.mem_append, List.mem_cons, List.not_mem_nil, or_false] at hd
      have i2 : ∀ (r : Nat) (x y : PyData), Okd 2 r x → Okd 2 r y → ∀ d ∈ [x, y], Okd 2 r d := fun r x y h1 h2 d hd => by
        simp only [List.mem_cons, List.not_mem_nil, or_false] at hd
        rcases hd with rfl | rfl
        · exact h1
        · exact h2
      have i1 : ∀ (r : Nat) (x : PyData), Okd 2 r x → ∀ d ∈ [x], Okd 2 r d := fun r x h1 d hd => by
        simp only [List.mem_cons, List.not_mem_nil, or_false] at hd
        rw [hd]
        exact h1
      have i0 : ∀ (r : Nat), ∀ d ∈ ([] : List PyData), Okd 2 r d := fun r d hd => absurd hd List.not_mem_nil
      have p2 : ∀ (r : Nat) (x y : PyData), Okd 2 r x → Okd 2 r y → Okd 2 (r + 1) (.tuple [x, y]) := fun r x y h1 h2 => .tup (by show 2 ≤ 2; decide) (i2 r x y h1 h2)
      have p1 : ∀ (r : Nat) (x : PyData), Okd 2 r x → Okd 2 (r + 1) (.tuple [x]) := fun r x h1 => .tup (by show 1 ≤ 2; decide) (i1 r x h1)
      have q1 : ∀ (r : Nat) (x : PyData), Okd 2 r x → Okd 2 (r + 1) (.list [x]) := fun r x h1 => .lst (by show 1 ≤ 2; decide) (i1 r x h1)
      rcases hd with (((rfl | rfl | rfl | rfl | rfl | rfl | rfl | rfl | rfl | rfl | rfl | rfl | rfl | rfl) | rfl | rfl | rfl | rfl | rfl | rfl) | rfl | rfl | rfl | rfl | rfl)
      all_goals first
        | exact .non
        | exact .bl _
        | exact .int _
        | exact .str _
        | exact .tup (by decide) (i0 1)
        | exact .lst (by decide) (i0 1)
        | exact p1 1 _ (.int _)
        | exact q1 1 _ (.int _)
        | exact p2 1 _ _ (.int _) (.int _)
        | exact p2 1 _ _ (.int _) .non
        | exact p1 1 _ (p2 0 _ _ (.int _) .non)
        | exact q1 1 _ (p2 0 _ _ (.int _) .non)
        | exact p2 1 _ _ (p2 0 _ _ (.int _) (.int _)) (p2 0 _ _ (.int _) .non)
        | exact p1 1 _ .non
    have lX : ([V.non, .bl true, .bl false, .int (-1), .int 0, .int 1, .int 9, .int 30, .int (10 ^ (18 : Int).toNat), .int (10 ^ (18 : Int).toNat + 1), .int (10 ^ (30 : Int).toNat), .str "", .str "a", .str "0"] ++ [V.ref a2, V.ref a3, V.ref a4, V.ref a5, V.ref a6, V.ref a7] ++ [V.ref a21, V.ref a23, V.ref a25, V.ref a28, V.ref a29]).length = 25 := rfl
    generalize ([V.non, .bl true, .bl false, .int (-1), .int 0, .int 1, .int 9, .int 30, .int (10 ^ (18 : Int).toNat), .int (10 ^ (18 : Int).toNat + 1), .int (10 ^ (30 : Int).toNat), .str "", .str "a", .str "0"] ++ [V.ref a2, V.ref a3, V.ref a4, V.ref a5, V.ref a6, V.ref a7] ++ [V.ref a21, V.ref a23, V.ref a25, V.ref a28, V.ref a29]) = XS at DA hc2' lX
    generalize ([PyData.none, .bool true, .bool false, .int (-1), .int 0, .int 1, .int 9, .int 30, .int (10 ^ (18 : Int).toNat), .int (10 ^ (18 : Int).toNat + 1), .int (10 ^ (30 : Int).toNat), .str "", .str "a", .str "0"] ++ ([.tuple [], .list [], .tuple [.int 0], .list [.int 0], .tuple [.int 0, .int 1], .tuple [.int 1, .int 0]] : List PyData) ++ ([.tuple [.int 0, .none], .tuple [.tuple [.int 0, .none]], .list [.tuple [.int 0, .none]], .tuple [.tuple [.int 0, .int 1], .tuple [.int 1, .none]], .tuple [.none]] : List PyData)) = DS at DA OK2
    obtain ⟨n0, e0⟩ : ∃ n0, ns[0]? = some n0 := ⟨_, List.getElem?_eq_getElem (by omega)⟩
    obtain ⟨n1, e1⟩ : ∃ n1, ns[1]? = some n1 := ⟨_, List.getElem?_eq_getElem (by omega)⟩
    refine ⟨_, rfl, _, rfl, pk, _, _, _, rfl, rfl, hpk40, at_of (j := 0) rfl (map_at e0), _, rfl, pk, _, _, _, rfl, rfl, hpk40, at_of (j := 1) rfl (map_at e1), _, _, rfl, rfl, .inl ⟨by decide, by decide⟩, _, _, rfl, rfl, _, rfl, c2, _, rfl, .inl (SqL.of hc2'), _, _, rfl, rfl, by rw [lX]; show (0 : Int) < 25; decide, ?_⟩
    rw [lX]
    have b0 : 0 ≤ (n0 + 7 * n1) % ((25 : Nat) : Int) := Int.emod_nonneg _ (by decide)
    have b1 : (n0 + 7 * n1) % ((25 : Nat) : Int) < 25 := Int.emod_lt_of_pos _ (by decide)
    obtain ⟨x, hx⟩ : ∃ x, XS[((n0 + 7 * n1) % ((25 : Nat) : Int)).toNat]? = some x := ⟨_, List.getElem?_eq_getElem (by omega)⟩
    obtain ⟨d, hd, dp⟩ := dpAll_get (DA H40 fun _ _ h _ => h) hx
    refine ⟨c2, _, _, _, rfl, rfl, SqL.of hc2', at_of (j := ((n0 + 7 * n1) % ((25 : Nat) : Int)).toNat) (by omega) hx, k x d H40 sAll (fun HN hn => ?_) (OK2 d (List.mem_of_getElem? hd))⟩
    obtain ⟨d', hd', dp'⟩ := dpAll_get (DA HN hn) hx
    rw [hd] at hd'
    cases hd'
    exact dp'
end
end Lp
namespace Lp
open PySem PySem.Spec PyProof.Rows L2
section
variable {X : Cx} {a b : Expr} {ta tb : TE} {p pos : Pos}
/-- isinstance(a, (T, U)) -/
theorem pe_isiT (B : Bls X.mg) (ha : PE X a ta) (hb : PE X b tb) (hg : Gl X "isinstance" := by rfl) (he : starEach [a, b] X.env = (false, eval a X.env) :: starEach [b] X.env := by rfl) (h2 : starEach [b] X.env = (false, eval b X.env) :: starEach [] X.env := by rfl)
    (hpl : (backTo pos (starEach [b] X.env)).any (·.1) = false := by rfl) : PE X (.Call (.Name "isinstance" p) [a, b] [] pos) (tCB (rIsiT X.K) (tCons ta (tCons tb tNil))) :=
  pe_callB call_isiT hg B.isinstance (by decide +kernel) (pa_cons ha (pa_cons hb pa_nil h2) he) (by decide) (by decide) he hpl
end
/-- a list or a tuple of data -/
def kidsD : PyData → Option (List PyData)
  | .list ds => some ds
  | .tuple ds => some ds
  | _ => none
def isSeqD (d : PyData) : Bool := isTupD d || isLstD d
/-- what a thing of H' may be made of: what is new since H, and what stood in H0 -/
def Kept (H0 H H' H2 : Hp) : Prop := ∀ (b : Addr) (o : HO), H' b = some o → (H b = none ∨ H0 b = some o) → H2 b = some o
def spSpoilt (K : PySem.W.Frag) (n r : Nat) : Sp := fun vs H Q _ => ∃ (v : V) (d : PyData) (pk : Addr) (ns : List Int) (H0 : Hp), vs = [v, .ref pk] ∧ Same H0 H ∧ Dp K H0 v d ∧ Okd n r d ∧ SqL K H pk (ns.map V.int) ∧ 9 + 4 * r ≤ ns.length ∧
  ∀ (v' : V) (d' : PyData) (H' : Hp), Same H H' → (∀ H2, Kept H0 H H' H2 → Dp K H2 v' d') → Okd (n + 1) (r + 3) d' → Q v' H'
/-- what the call within may lean on -/
def spRec (K : PySem.W.Frag) (n : Nat) : Nat → Sp
  | 0 => fun _ _ _ _ => False
  | r + 1 => spSpoilt K n r
section
variable {P : Program} {w : World} {K : PySem.W.Frag} {mg : Str → Option Value} {base : Heap}
theorem kit_tl (K : PySem.W.Frag) (d : PyData) : PySem.W.kitAny K (.type (tyD d)) [.type "tuple", .type "list"] = some (isSeqD d) := by
  refine kitAny_cons (kit_t K d) (fun e => ?_) fun e => by unfold isSeqD; rw [e]; rfl
  refine kitAny_cons (b := isLstD d) (kit_l K d) (fun e' => ?_) fun e' => by unfold isSeqD; rw [e']; exact Bool.or_true _
  unfold isSeqD
  rw [e, e']
  exact kitAny_nil
/-- _law_odd(picks[j:]) -/
theorem odd_mk {H : Hp} {σ : L2.St} {pk : Addr} {ns : List Int} {Q : VK} (j : Nat) (h1 : σ[1]? = some (some (.ref pk))) (hpk : SqL K H pk (ns.map V.int)) (l : j + 2 ≤ ns.length) (q : ∀ (v : V) (d : PyData) (H' : Hp), Same H H' → (∀ H2 : Hp, (∀ b o, H' b = some o → H b = none → H2 b = some o) → Dp K H2 v d) → Okd 2 2 d → Q v H') :
    tCall (spOdd K) [] L2.E0 (tCons (tSl (rSlL K) (tVar 1) (tPart (tC (.int (j : Int)))) tNoPart) tNil) σ H Q := by
  refine ⟨_, h1, _, rfl, np_mk (cut_list (lo := some (j : Int)) (hi := none) hpk fun r1 H2 s2 hr1 => ?_)⟩
  have e1 : cutV (ns.map V.int) (some (j : Int)) none = (ns.map V.int).drop j := cut_drop _ j
  rw [e1, ← List.map_drop] at hr1
  exact ⟨r1, ns.drop j, rfl, SqL.of hr1, by rw [List.length_drop]; omega, fun v d H3 s3 dp od => q v d H3 (Same.trans s2 s3) (fun H4 h4 => dp H4 fun b o h5 h6 => h4 b o h5 (s2.free h6)) od⟩
theorem seqP {A C : TS} {D : Ends} {σ : L2.St} {H : Hp} (R : L2.St → Hp → Prop) (h : ∀ D' : Ends, (∀ σ' H', R σ' H' → D'.nx σ' H') → A D' σ H) (q : ∀ σ' H', R σ' H' → C D σ' H') : tSeq A C D σ H := h _ q
theorem renorm {C : TS} {D : Ends} {σ σ' : L2.St} {H : Hp} (h : σ = σ') (q : C D σ' H) : C D σ H := h ▸ q
theorem same_put {H0 H : Hp} {p : Addr} {o : HO} (s : Same H0 H) (n : H0 p = none) : Same H0 (upd H p o) := fun b u e => by
  rw [upd_ne (fun z => by rw [z, n] at e; cases e)]
  exact s b u e
theorem cat_new {a b : Addr} {H : Hp} {Q : VK} {xs ys : List V} (h1 : H a = some (.lst xs)) (h2 : H b = some (.lst ys)) (hl : xs.length + ys.length ≤ 1000) (q : ∀ (r : Addr) (H' : Hp), H r = none → Same H H' → H' r = some (.lst (xs ++ ys)) → Q (.ref r) H') : rCat (.ref a) (.ref b) H Q :=
  ⟨a, b, _, _, rfl, rfl, h1, h2, Nat.le_of_lt (small1000 hl), fun p hp => q p _ hp (same_upd hp) upd_same⟩
theorem sc_law_spoilt : FnScope ["thing", "picks", "parts", "at", "turn_by"] ["thing", "picks"] (defScope s_law_spoilt) := ⟨rfl, rfl, rfl, by decide +kernel, rfl, by decide +kernel, by decide +kernel⟩
theorem spoilt_step {n r : Nat} (hn : 2 ≤ n) (hn2 : n ≤ 100) {f : Addr} {fd : FuncData} (F : L2.Fun K "_law_spoilt" "_law_spoilt" s_law_spoilt f fd) (B : Bls mg) (c_law_odd : Cal P w K mg base 1 "_law_odd" (spOdd K)) (c_rec : Cal P w K mg base (1 + r) "_law_spoilt" (spRec K n r)) : FnOk P w K mg base L2.CX0 (1 + r + 1) f fd ["thing", "picks"] (spSpoilt K n r) := by
  refine F.ok sc_law_spoilt (fun vs H Q E h => ?_) (fun cdv A outer s H vs Q E hr h => ?_)
  · obtain ⟨_, _, _, _, _, rfl, _⟩ := h
    rfl
  · obtain ⟨v, d, pk, ns, H0, rfl, s0, hd, okd, hpk, ln, k⟩ := h
    have h1r : 1 ≤ 1 + r := by omega
    refine ⟨_, (pss_cons (ps_if (PW.pt (pw_or (pt_not (pt_val (pe_isiT B (pv 0) (pe_tup (pa_cons (pe_tTuple B) (pa_cons (pe_tList B) pa_nil)))))) (pw_or (pt_cmpR op_eq (pe_len B (pv 0)) pe_int (nomark _)) (pw_or (pt_cmpR op_lt (pe_len B (pv 1)) pe_int (nomark _)) (pw_or1 (pt_cmpR op_eq (pe_op op_mod (pe_ix ix_list (pv 1) pe_int (fun _ _ => rfl)) pe_int) pe_int (nomark _)))))))
      (pss_one (ps_ret (pe_g c_law_odd hr (pa_cons (pe_slice sl_list (pv 1) (po_some pe_int) po_none) pa_nil) h1r)))
      pss_nil)
      (pss_cons (ps_set (i := 2) sc_law_spoilt.nd rfl (Or.inl rfl) (pe_callTy call_list_of (by rfl) B.list (by decide +kernel) (pa_cons (pv 0) pa_nil)))
      (pss_cons (ps_set (i := 3) sc_law_spoilt.nd rfl (Or.inl rfl) (pe_op op_mod (pe_ix ix_list (pv 1) pe_int (fun _ _ => rfl)) (pe_len B (pv 2))))
      (pss_cons (ps_set (i := 4) sc_law_spoilt.nd rfl (Or.inl rfl) (pe_op op_mod (pe_ix ix_list (pv 1) pe_int (fun _ _ => rfl)) pe_int))
      (pss_cons (ps_if (pt_cmpR op_eq (pv 4) pe_int (nomark _))
      (pss_one (ps_set (i := 2) sc_law_spoilt.nd rfl (Or.inl rfl) (pe_op op_cat (pe_slice sl_list (pv 2) po_none (po_some (pv 3))) (pe_slice sl_list (pv 2) (po_some (pe_op op_add (pv 3) pe_int)) po_none))))
      (pss_one (ps_if (pt_cmpR op_eq (pv 4) pe_int (nomark _))
      (pss_one (ps_set (i := 2) sc_law_spoilt.nd rfl (Or.inl rfl) (pe_op op_cat (pe_slice sl_list (pv 2) po_none (po_some (pe_op op_add (pv 3) pe_int))) (pe_slice sl_list (pv 2) (po_some (pv 3)) po_none))))
      (pss_one (ps_if (pt_cmpR op_eq (pv 4) pe_int (nomark _))
      (pss_one (ps_set (i := 2) sc_law_spoilt.nd rfl (Or.inl rfl) (pe_op op_cat (pe_slice sl_list (pv 2) (po_some (pv 3)) po_none) (pe_slice sl_list (pv 2) po_none (po_some (pv 3))))))
      (pss_one (ps_if (pt_cmpR op_eq (pv 4) pe_int (nomark _))
      (pss_one (ps_set (i := 2) sc_law_spoilt.nd rfl (Or.inl rfl) (pe_op op_cat (pe_op op_cat (pe_slice sl_list (pv 2) po_none (po_some (pv 3))) (pe_lst (pa_cons (pe_g c_law_odd hr (pa_cons (pe_slice sl_list (pv 1) (po_some pe_int) po_none) pa_nil) h1r) pa_nil))) (pe_slice sl_list (pv 2) (po_some (pv 3)) po_none))))
      (pss_one (ps_if (pt_cmpR op_gt (pv 4) pe_int (nomark _))
      (pss_one (ps_asg (pe_g c_rec hr (pa_cons (pe_ix ix_list (pv 2) (pv 3) (fun _ _ => rfl)) (pa_cons (pe_slice sl_list (pv 1) (po_some pe_int) po_none) pa_nil)) (Nat.le_refl _)) (pg_sub (pv 2) (pv 3) set_list)))
      pss_nil)))))))))
      (pss_cons (ps_if (pt_cmpR op_eq (pe_isi B (pv 0) (pe_tTuple B)) (pe_cmpR op_eq (pv 4) pe_int (nomark _)) (nomark _))
      (pss_one (ps_ret (pv 2)))
      pss_nil)
      (pss_one (ps_ret (pe_callTy call_tuple_of (by rfl) B.tuple (by decide +kernel) (pa_cons (pv 2) pa_nil)))))))))), ?_⟩
    have l9 : 9 ≤ ns.length := by omega
    have okO : ∀ d', Okd 2 2 d' → Okd (n + 1) (r + 3) d' := fun d' h => h.mono (by omega) (by omega)
    obtain ⟨n0, e0⟩ : ∃ n0, ns[0]? = some n0 := ⟨_, List.getElem?_eq_getElem (by omega)⟩
    obtain ⟨n1, e1⟩ : ∃ n1, ns[1]? = some n1 := ⟨_, List.getElem?_eq_getElem (by omega)⟩
    obtain ⟨n2, e2⟩ : ∃ n2, ns[2]? = some n2 := ⟨_, List.getElem?_eq_getElem (by omega)⟩
    refine ⟨_, rfl, by show 2 ≤ sizeLine; decide, fun tp htp => ?_⟩
    have s1 := same_upd (o := .tup [.ty "tuple", .ty "list"]) htp
    have hd1 := (dp_same (K := K) (Same.trans s0 s1)).1 hd
    have hpk1 := (Same.evo s1).ints hpk
    refine ⟨v, tp, _, _, _, _, rfl, upd_same, .cons (.ty _) (.cons (.ty _) .nil), tyx hd1, kit_tl K d, ?_⟩
    generalize upd H tp (.tup [.ty "tuple", .ty "list"]) = H1 at s1 hd1 hpk1 ⊢
    have s01 := Same.trans s0 s1
    have kO : ∀ (v' : V) (d' : PyData) (H' : Hp), Same H1 H' → (∀ H2 : Hp, (∀ b o, H' b = some o → H1 b = none → H2 b = some o) → Dp K H2 v' d') → Okd 2 2 d' → Q v' H' := fun v' d' H' s' dp od =>
      k v' d' H' (Same.trans s1 s') (fun H2 h2 => dp H2 fun b o h5 h6 => h2 b o h5 (.inl (s1.free h6))) (okO d' od)
    cases eq : isSeqD d with
    | false => exact ⟨_, rfl, iteT (iteT (odd_mk 1 rfl hpk1 (by omega) kO))⟩
    | true =>
    obtain ⟨a, xs, ds, rfl, hseq, hall0, ln2, r', rfl, okds⟩ : ∃ (a : Addr) (xs : List V) (ds : List PyData), v = .ref a ∧ (SqL K H1 a xs ∨ SqT K H1 a xs) ∧ DpAll K H0 xs ds ∧ (ds.length ≤ n ∧ ∃ r', r = r' + 1 ∧ ∀ d ∈ ds, Okd n r' d) := by
      cases hd with
      | non => cases eq
      | bl b => cases eq
      | int i => cases eq
      | str x => cases eq
      | @lst a xs ds hs ha =>
        cases okd with
        | lst hl h => exact ⟨a, xs, ds, rfl, .inl (Same.seq s01 hs), ha, hl, _, rfl, h⟩
      | @tup a xs ds hs ha =>
        cases okd with
        | tup hl h => exact ⟨a, xs, ds, rfl, .inr (Same.sqt s01 hs), ha, hl, _, rfl, h⟩
    have lx := dpAll_len hall0
    refine ⟨_, rfl, iteF ?_⟩
    refine ⟨_, rfl, a, xs, rfl, hseq, rfl, _, rfl, ?_⟩
    by_cases z0 : V.int (xs.length : Int) = V.int 0
    · rw [decide_eq_true z0]
      exact iteT (iteT (odd_mk 1 rfl hpk1 (by omega) kO))
    rw [decide_eq_false z0]
    have xpos : 0 < xs.length := by
      rcases Nat.eq_zero_or_pos xs.length with z | z
      · exact absurd (by rw [z]; rfl) z0
      · exact z
    refine iteF ⟨_, rfl, pk, _, rfl, .inl hpk1, _, _, rfl, rfl, _, rfl, ?_⟩
    rw [decide_eq_false (show ¬ ((ns.map V.int).length : Int) < 9 by rw [List.length_map]; omega)]
    refine iteF ⟨_, rfl, pk, _, _, _, rfl, rfl, hpk1, at_of (j := 0) rfl (map_at e0), _, _, rfl, rfl, by show (0 : Int) < 9; decide, rfl, _, rfl, ?_⟩
    by_cases z9 : V.int (n0 % 9) = V.int 0
    · rw [decide_eq_true z9]
      exact iteT (odd_mk 1 rfl hpk1 (by omega) kO)
    rw [decide_eq_false z9]
    refine iteF ?_
    -- parts
    refine next_mk ⟨_, rfl, a, xs, rfl, hseq, fun pl hpl => ?_⟩
    have s2 := same_upd (o := .lst xs) hpl
    have g2 : (upd H1 pl (.lst xs)) pl = some (.lst xs) := upd_same
    generalize upd H1 pl (.lst xs) = H2 at s2 g2 ⊢
    have hpk2 := (Same.evo s2).ints hpk1
    have s12 := Same.trans s1 s2
    have s02 := Same.trans s01 s2
    have pl0 : H pl = none := s1.free hpl
    have pl00 : H0 pl = none := s0.free pl0
    -- at, turn_by
    refine nx_mk ⟨_, rfl, pk, _, _, _, rfl, rfl, hpk2, at_of (j := 1) rfl (map_at e1), _, rfl, pl, _, rfl, .inl (SqL.of g2), _, _, rfl, rfl, by show (0 : Int) < (xs.length : Int); omega, ?_⟩
    obtain ⟨p, hp, hpx⟩ : ∃ p : Nat, n1 % (xs.length : Int) = (p : Int) ∧ p < xs.length := ⟨(n1 % (xs.length : Int)).toNat, by have := Int.emod_nonneg n1 (show (xs.length : Int) ≠ 0 by omega); omega, by have := Int.emod_lt_of_pos n1 (show (0 : Int) < (xs.length : Int) by omega); have := Int.emod_nonneg n1 (show (xs.length : Int) ≠ 0 by omega); omega⟩
    refine nx_mk ⟨_, rfl, pk, _, _, _, rfl, rfl, hpk2, at_of (j := 2) rfl (map_at e2), _, _, rfl, rfl, by show (0 : Int) < 12; decide, ?_⟩
    refine nx_mk (renorm (σ' := [some (.ref a), some (.ref pk), some (.ref pl), some (.int (p : Int)), some (.int (n2 % 12))]) (by rw [← hp]; rfl) ?_)
    generalize n2 % 12 = tb
    have subOk : ∀ es : List PyData, (∀ e ∈ es, e ∈ ds) → ∀ e ∈ es, Okd (n + 1) (r' + 3) e := fun es h e he => (okds e (h e he)).mono (by omega) (by omega)
    have lift : ∀ H' H2 : Hp, Same H0 H' → Kept H0 H H' H2 → Same H0 H2 := fun H' H2 s h b o e => h b o (s b o e) (.inr e)
    have alls : ∀ (H' : Hp), Same H0 H' → ∀ H2, Kept H0 H H' H2 → DpAll K H2 xs ds := fun H' s H2 h => (dp_same (lift H' H2 s h)).2 hall0
    refine seqP (fun σ' H' => ∃ (pl' : Addr) (ys : List V) (es : List PyData), σ' = [some (.ref a), some (.ref pk), some (.ref pl'), some (.int (p : Int)), some (.int tb)] ∧ Same H1 H' ∧ H pl' = none ∧ H' pl' = some (.lst ys) ∧ (∀ H2, Kept H0 H H' H2 → DpAll K H2 ys es) ∧ es.length ≤ n + 1 ∧ ∀ e ∈ es, Okd (n + 1) (r' + 3) e) (fun D' hD => ?_) ?_
    · refine ⟨_, rfl, rfl, _, rfl, ?_⟩
      refine ite2 (fun c => ?_) (fun c => ?_)
      · -- one left out
        refine ⟨_, rfl, np_mk ⟨_, rfl, _, rfl, cut_list (lo := none) (hi := some (p : Int)) (SqL.of g2) fun r1 H3 s3 hr1 => ?_⟩⟩
        refine ⟨_, rfl, _, rfl, _, _, rfl, rfl, _, rfl, np_mk (cut_list (lo := some ((p + 1 : Nat) : Int)) (hi := none) (SqL.of (s3 _ _ g2)) fun r2 H4 s4 hr2 => ?_)⟩
        rw [cut_take] at hr1
        rw [cut_drop] at hr2
        refine cat_new (s4 _ _ hr1) hr2 (by rw [List.length_take, List.length_drop]; omega) fun r5 H5 n5 s5 hr5 => ?_
        have s25 := Same.trans (Same.trans s3 s4) s5
        refine hD _ _ ⟨r5, _, ds.take p ++ ds.drop (p + 1), rfl, Same.trans s2 s25, (Same.trans (Same.trans s12 s3) s4).free n5, hr5, fun H6 h6 => dpAll_app (dpAll_take p (alls H5 (Same.trans s02 s25) H6 h6)) (dpAll_drop (p + 1) (alls H5 (Same.trans s02 s25) H6 h6)), by rw [List.length_append, List.length_take, List.length_drop]; omega, subOk _ fun e he => ?_⟩
        rcases List.mem_append.mp he with h | h
        · exact List.mem_of_mem_take h
        · exact List.mem_of_mem_drop h
      refine ⟨_, rfl, rfl, _, rfl, ?_⟩
      refine ite2 (fun c => ?_) (fun c => ?_)
      · -- one twice
        refine ⟨_, rfl, np_mk ⟨_, rfl, _, _, rfl, rfl, _, rfl, cut_list (lo := none) (hi := some ((p + 1 : Nat) : Int)) (SqL.of g2) fun r1 H3 s3 hr1 => ?_⟩⟩
        refine ⟨_, rfl, _, rfl, _, rfl, np_mk (cut_list (lo := some (p : Int)) (hi := none) (SqL.of (s3 _ _ g2)) fun r2 H4 s4 hr2 => ?_)⟩
        rw [cut_take] at hr1
        rw [cut_drop] at hr2
        refine cat_new (s4 _ _ hr1) hr2 (by rw [List.length_take, List.length_drop]; omega) fun r5 H5 n5 s5 hr5 => ?_
        have s25 := Same.trans (Same.trans s3 s4) s5
        refine hD _ _ ⟨r5, _, ds.take (p + 1) ++ ds.drop p, rfl, Same.trans s2 s25, (Same.trans (Same.trans s12 s3) s4).free n5, hr5, fun H6 h6 => dpAll_app (dpAll_take (p + 1) (alls H5 (Same.trans s02 s25) H6 h6)) (dpAll_drop p (alls H5 (Same.trans s02 s25) H6 h6)), by rw [List.length_append, List.length_take, List.length_drop]; omega, subOk _ fun e he => ?_⟩
        rcases List.mem_append.mp he with h | h
        · exact List.mem_of_mem_take h
        · exact List.mem_of_mem_drop h
      refine ⟨_, rfl, rfl, _, rfl, ?_⟩
      refine ite2 (fun c => ?_) (fun c => ?_)
      · -- turned
        refine ⟨_, rfl, _, rfl, _, rfl, np_mk (cut_list (lo := some (p : Int)) (hi := none) (SqL.of g2) fun r1 H3 s3 hr1 => ?_)⟩
        refine ⟨_, rfl, np_mk ⟨_, rfl, _, rfl, cut_list (lo := none) (hi := some (p : Int)) (SqL.of (s3 _ _ g2)) fun r2 H4 s4 hr2 => ?_⟩⟩
        rw [cut_drop] at hr1
        rw [cut_take] at hr2
        refine cat_new (s4 _ _ hr1) hr2 (by rw [List.length_take, List.length_drop]; omega) fun r5 H5 n5 s5 hr5 => ?_
        have s25 := Same.trans (Same.trans s3 s4) s5
        refine hD _ _ ⟨r5, _, ds.drop p ++ ds.take p, rfl, Same.trans s2 s25, (Same.trans (Same.trans s12 s3) s4).free n5, hr5, fun H6 h6 => dpAll_app (dpAll_drop p (alls H5 (Same.trans s02 s25) H6 h6)) (dpAll_take p (alls H5 (Same.trans s02 s25) H6 h6)), by rw [List.length_append, List.length_take, List.length_drop]; omega, subOk _ fun e he => ?_⟩
        rcases List.mem_append.mp he with h | h
        · exact List.mem_of_mem_drop h
        · exact List.mem_of_mem_take h
      refine ⟨_, rfl, rfl, _, rfl, ?_⟩
      refine ite2 (fun c => ?_) (fun c => ?_)
      · -- an odd one put in
        refine ⟨_, rfl, np_mk ⟨_, rfl, _, rfl, cut_list (lo := none) (hi := some (p : Int)) (SqL.of g2) fun r1 H3 s3 hr1 => ?_⟩⟩
        refine odd_mk 3 rfl ((Same.evo s3).ints hpk2) (by omega) fun v' d' H4 s4 lv od => ?_
        refine ⟨by show 1 ≤ sizeLine; decide, fun q1 hq1 => ?_⟩
        have s5 := same_upd (o := .lst [v']) hq1
        have g5 : (upd H4 q1 (.lst [v'])) q1 = some (.lst [v']) := upd_same
        generalize upd H4 q1 (.lst [v']) = H5 at s5 g5 ⊢
        rw [cut_take] at hr1
        refine cat_new (s5 _ _ (s4 _ _ hr1)) g5 (by rw [List.length_take]; show _ + 1 ≤ 1000; omega) fun r6 H6 n6 s6 hr6 => ?_
        refine ⟨_, rfl, _, rfl, _, rfl, np_mk (cut_list (lo := some (p : Int)) (hi := none) (SqL.of (s6 _ _ (s5 _ _ (s4 _ _ (s3 _ _ g2))))) fun r7 H7 s7 hr7 => ?_)⟩
        rw [cut_drop] at hr7
        refine cat_new (s7 _ _ hr6) hr7 (by rw [List.length_append, List.length_take, List.length_drop]; show _ + 1 + _ ≤ 1000; omega) fun r8 H8 n8 s8 hr8 => ?_
        have s48 := Same.trans (Same.trans (Same.trans s5 s6) s7) s8
        have s28 := Same.trans (Same.trans s3 s4) s48
        have s27 := Same.trans (Same.trans (Same.trans (Same.trans s3 s4) s5) s6) s7
        have s23 := Same.trans s12 s3
        refine hD _ _ ⟨r8, _, (ds.take p ++ [d']) ++ ds.drop p, rfl, Same.trans s2 s28, (Same.trans s12 s27).free n8, hr8, fun H9 h9 => dpAll_app (dpAll_app (dpAll_take p (alls H8 (Same.trans s02 s28) H9 h9)) (.cons (lv H9 fun b o h5 h6 => h9 b o (s48 _ _ h5) (.inl (s23.free h6))) .nil)) (dpAll_drop p (alls H8 (Same.trans s02 s28) H9 h9)), by rw [List.length_append, List.length_append, List.length_take, List.length_drop]; show _ + 1 + _ ≤ _; omega, fun e he => ?_⟩
        rcases List.mem_append.mp he with h | h
        · rcases List.mem_append.mp h with h | h
          · exact subOk (ds.take p) (fun e he => List.mem_of_mem_take he) e h
          · rw [List.mem_singleton.mp h]
            exact od.mono (by omega) (by omega)
        · exact subOk (ds.drop p) (fun e he => List.mem_of_mem_drop he) e h
      refine ⟨_, rfl, _, _, rfl, rfl, _, rfl, ?_⟩
      refine ite2 (fun c => ?_) (fun c => ?_)
      · -- one of them spoilt
        obtain ⟨x, hx⟩ : ∃ x, xs[p]? = some x := ⟨_, List.getElem?_eq_getElem hpx⟩
        obtain ⟨dx, hdx, dpx⟩ := dpAll_get hall0 hx
        refine ⟨_, rfl, _, rfl, pl, _, _, x, rfl, rfl, SqL.of g2, at_of (j := p) rfl hx, ?_⟩
        refine ⟨_, rfl, _, rfl, np_mk (cut_list (lo := some ((4 : Nat) : Int)) (hi := none) hpk2 fun r1 H3 s3 hr1 => ?_)⟩
        rw [cut_drop, ← List.map_drop] at hr1
        refine ⟨x, dx, r1, ns.drop 4, H0, rfl, Same.trans s02 s3, dpx, okds dx (List.mem_of_getElem? hdx), SqL.of hr1, by rw [List.length_drop]; omega, fun v' d' H4 s4 lv od => ?_⟩
        have s24 := Same.trans s3 s4
        refine ⟨_, rfl, _, rfl, pl, xs, _, p, rfl, rfl, s24 _ _ g2, ?_, ?_⟩
        · show (if 0 ≤ (p : Int) then (if (p : Int) < xs.length then some (p : Int).toNat else none) else _) = _
          rw [if_pos (Int.natCast_nonneg p), if_pos (by omega), Int.toNat_natCast]
        have s14 : Same H1 H4 := Same.trans s2 s24
        refine hD _ _ ⟨pl, _, ds.set p d', rfl, same_put s14 hpl, pl0, upd_same, fun H6 h6 => ?_, by rw [List.length_set]; omega, fun e he => ?_⟩
        · refine dpAll_set p (alls _ (same_put (Same.trans s01 s14) pl00) H6 h6) (lv H6 fun b o h7 h8 => ?_)
          have ne : b ≠ pl := fun z => by
            subst z
            rcases h8 with h8 | h8
            · rw [s3 _ _ g2] at h8
              cases h8
            · rw [pl00] at h8
              cases h8
          refine h6 b o ((upd_ne ne).trans h7) ?_
          rcases h8 with h8 | h8
          · exact .inl ((Same.trans s12 s3).free h8)
          · exact .inr h8
        · rcases List.mem_or_eq_of_mem_set he with h | h
          · exact subOk ds (fun e he => he) e h
          · rw [h]
            exact od
      · exact hD _ _ ⟨pl, xs, ds, rfl, s2, pl0, g2, fun H6 h6 => alls H2 s02 H6 h6, by omega, subOk ds fun e he => he⟩
    · rintro σ' H' ⟨pl', ys, es, rfl, s3, npl, hpl', lv, le, oke⟩
      have s0' : Same H H' := Same.trans s1 s3
      refine ⟨_, rfl, _, _, _, _, _, rfl, .ty _, tyx ((dp_same (K := K) (Same.trans s0 s0')).1 hd), kit_t K d, _, rfl, rfl, rfl, _, rfl, ?_⟩
      refine ite2 (fun c => ?_) (fun c => ?_)
      · exact ⟨_, rfl, k _ (.list es) H' s0' (fun H2 h2 => .lst (SqL.of (h2 _ _ hpl' (.inl npl))) (lv H2 h2)) (.lst le oke)⟩
      · refine ⟨_, rfl, pl', ys, rfl, .inl ⟨SqL.of hpl', fun l hl => ?_⟩⟩
        have s4 := same_upd (o := .tup ys) hl
        exact k _ (.tuple es) _ (Same.trans s0' s4) (fun H2 h2 => .tup (SqT.of (h2 _ _ upd_same (.inl (s0'.free hl)))) (lv H2 fun b o h5 h6 => h2 b o (s4 _ _ h5) h6)) (.tup le oke)
end
end Lp
namespace Lp
open PySem PySem.Spec PyProof.Rows L2
section
variable {P : Program} {w : World} {K : PySem.W.Frag} {mg : Str → Option Value} {base : Heap} {C : Addr} {x m qual : Str} {st : Stmt} {k n : Nat} {ps : List Str} {sp : Sp}
theorem DefIn.cal (D : DefIn K mg x st) (h : ∀ f fd, L2.Fun K x x st f fd → FnOk P w K mg base L2.CX0 k f fd ps sp)
    (hb : ∀ (kV doc pm : Value) (an : Option Addr) (cdv ct : Value) (us : List Value), us.length = ps.length → bindArgs (PySem.W.fnOf x x (defArgs st) (defBody st) (defScope st) .none kV doc pm an cdv ct) ⟨us, []⟩ = pure (ps.zip us)) : Cal P w K mg base k x sp := by
  obtain ⟨f, fd, F, hm⟩ := D.ex
  exact ⟨f, fd, ps, h f fd F, hm, F.kp, F.binds hb⟩
theorem MethIn.met (D : MethIn K C m qual st) (cl : Cls K C) (h : ∀ f fd, L2.Fun K m qual st f fd → FnOk P w K mg base L2.CX0 k f fd ps sp)
    (hb : ∀ (kV doc pm : Value) (an : Option Addr) (cdv ct : Value) (us : List Value), us.length = ps.length → bindArgs (PySem.W.fnOf m qual (defArgs st) (defBody st) (defScope st) .none kV doc pm an cdv ct) ⟨us, []⟩ = pure (ps.zip us)) : Met P w K mg base k C m sp := by
  obtain ⟨f, fd, F, hm⟩ := D.ex
  exact ⟨f, fd, ps, cl, hm, h f fd F, F.binds hb⟩
theorem MethIn.mak (D : MethIn K C "__init__" qual st) (hC : mg x = some (.ref C)) (mk : PySem.W.makesIn K C = true) (kc : PySem.W.keepIn K (.ref C) = true) (h : ∀ f fd, L2.Fun K "__init__" qual st f fd → FnOk P w K mg base L2.CX0 k f fd ps sp)
    (hb : ∀ (kV doc pm : Value) (an : Option Addr) (cdv ct : Value) (us : List Value), us.length = ps.length → bindArgs (PySem.W.fnOf "__init__" qual (defArgs st) (defBody st) (defScope st) .none kV doc pm an cdv ct) ⟨us, []⟩ = pure (ps.zip us)) : Mak P w K mg base k x C sp := by
  obtain ⟨f, fd, F, hm⟩ := D.ex
  exact ⟨f, fd, ps, ⟨mk, hm.at_, hm.fn, kc⟩, h f fd F, hC, F.binds hb⟩
theorem DefKw.cal (D : DefKw K mg x st) (h : ∀ f fd, FunD K x x (defArgs st) (defBody st) (defScope st) [] [("first", .int 0)] f fd → FnOk P w K mg base L2.CX0 k f fd ps sp) (hn : n + 1 = ps.length)
    (h0 : ∀ (D : Addr) (doc pm : Value) (an : Option Addr) (cdv ct : Value) (us ks : List Value), us.length = n → ks.length = 1 → KwChain D ((["first"] : List Str).zip ks) (bindArgs (PySem.W.fnOf x x (defArgs st) (defBody st) (defScope st) .none (.ref D) doc pm an cdv ct) ⟨us, []⟩) (ps.zip (us ++ ks)))
    (h1 : ∀ (kV doc pm : Value) (an : Option Addr) (cdv ct : Value) (us ws : List Value), us.length = n → ws.length = 1 → bindArgs (PySem.W.fnOf x x (defArgs st) (defBody st) (defScope st) .none kV doc pm an cdv ct) ⟨us, (["first"] : List Str).zip ws⟩ = pure (ps.zip (us ++ ws))) : CalK P w K mg base k n x sp := by
  obtain ⟨f, fd, F, hm⟩ := D.ex
  refine ⟨f, fd, ps, h f fd F, hm, F.kp, F.binds0 n (by simp) hn h0, ⟨fun s us ws X l1 l2 => ?_, fun r1 r2 => r1.append r2⟩⟩
  obtain ⟨oc, od, dV, kV, doc, pm, an, cdv, ct, osl, rfl, lk, hcd, hD, hK⟩ := F.ex
  rcases hD with ⟨_, rfl⟩ | ⟨e, _⟩
  · exact .of_eq (h1 kV doc pm an cdv ct us ws l1 l2)
  · exact absurd rfl e
end
theorem _root_.L2.Fun.binds1 {K : PySem.W.Frag} {x qual : Str} {st : Stmt} {f : Addr} {fd : FuncData} (F : L2.Fun K x qual st f fd)
    (hb : ∀ (kV doc pm : Value) (an : Option Addr) (cdv ct : Value) (us : List Value), us.length = (["script"] : List Str).length → bindArgs (PySem.W.fnOf x qual (defArgs st) (defBody st) (defScope st) .none kV doc pm an cdv ct) ⟨us, []⟩ = pure ((["script"] : List Str).zip us)) (s : Shared) (v : Value) : BindsTo s fd ⟨[v], []⟩ [("script", v)] := by
  obtain ⟨oc, od, kV, doc, pm, an, cdv, ct, osl, rfl, lk, hcd⟩ := F.ex
  exact .of_eq (hb kV doc pm an cdv ct [v] rfl)
end Lp
namespace Lp
open PySem PySem.Spec PyProof.Rows L2
section
variable {P : Program} {w : World} {K : PySem.W.Frag} {mg : Str → Option Value} {base : Heap}
/-- what calls itself, so many levels deep -/
theorem spoilt_rec {n : Nat} (hn : 2 ≤ n) (hn2 : n ≤ 100) (D : DefIn K mg "_law_spoilt" s_law_spoilt) (B : Bls mg) (c_law_odd : Cal P w K mg base 1 "_law_odd" (spOdd K)) : ∀ r : Nat, Cal P w K mg base (1 + r) "_law_spoilt" (spRec K n r)
  | 0 => D.cal (ps := ["thing", "picks"]) (fun f fd F => ⟨fun _ _ _ _ h => h.elim, fun _ _ _ _ _ _ _ _ _ _ _ _ _ h => h.elim⟩) (fun _ _ _ _ _ _ us hl => match us, hl with | [_, _], _ => rfl)
  | r + 1 => D.cal (fun f fd F => spoilt_step hn hn2 F B c_law_odd (spoilt_rec hn hn2 D B c_law_odd r)) (fun _ _ _ _ _ _ us hl => match us, hl with | [_, _], _ => rfl)
end
end Lp
namespace Lp
open PySem PySem.Spec PyProof.Rows L2
section
variable {K : PySem.W.Frag} {H : Hp} {Q : VK}
theorem arg7 {c : V} {t : TA} {σ : L2.St} {H : Hp} {k : List V → Hp → Prop} (h : t σ H fun xs H' => k (c :: xs) H') : tCons (tC c) t σ H k := h
theorem part_mk {te : TE} {σ : L2.St} {H : Hp} {k : Option Int → Hp → Prop} (h : te σ H fun x H1 => ∃ i, x = .int i ∧ k (some i) H1) : tPart te σ H k := h
/-- t[lo:] -/
theorem cut_from {a : Addr} {xs : List V} {p : Nat} (h : SqT K H a xs) (q : ∀ (r : Addr) (H' : Hp), Same H H' → SqT K H' r (xs.drop p) → Q (.ref r) H') : rSlA K (.ref a) (some (p : Int)) none H Q := by
  refine ⟨a, xs, rfl, h, fun w => q a H (Same.refl _) ?_, fun _ u hu => q u _ (same_upd hu) (by rw [← cut_drop]; exact SqT.of upd_same)⟩
  rw [HT.sIx_nat] at w
  by_cases c : p = 0
  · rw [c]; exact h
  · have : xs.length = 0 := by omega
    have e : xs = [] := List.eq_nil_of_length_eq_zero this
    rw [e, List.drop_nil, ← e]
    exact h
/-- t[:hi] -/
theorem cut_to {a : Addr} {xs : List V} {p : Nat} (h : SqT K H a xs) (q : ∀ (r : Addr) (H' : Hp), Same H H' → SqT K H' r (xs.take p) → Q (.ref r) H') : rSlA K (.ref a) none (some (p : Int)) H Q := by
  refine ⟨a, xs, rfl, h, fun w => q a H (Same.refl _) ?_, fun _ u hu => q u _ (same_upd hu) (by rw [← cut_take]; exact SqT.of upd_same)⟩
  rw [HT.sIx_nat] at w
  rw [List.take_of_length_le (by omega)]
  exact h
end
end Lp
namespace Lp
open PySem PySem.Spec PyProof.Rows L2
/-! ### t[::-1], t a tuple -/
theorem back_pick (xs : Array Value) : ((List.range xs.size).filterMap fun (m : Nat) => xs[(((xs.size : Int) - 1) + (m : Int) * (-1)).toNat]?) = xs.toList.reverse := by
  have key : ∀ k, k ≤ xs.size → ((List.range k).filterMap fun (m : Nat) => xs[(((xs.size : Int) - 1) + (m : Int) * (-1)).toNat]?) = (List.range k).map fun m => xs.toList.getD (xs.size - 1 - m) .none := by
    intro k
    induction k with
    | zero => intro _; rfl
    | succ k ih =>
      intro hk
      rw [List.range_succ, List.filterMap_append, List.map_append, ih (by omega)]
      congr 1
      have e : xs[(((xs.size : Int) - 1) + (k : Int) * (-1)).toNat]? = some (xs.toList.getD (xs.size - 1 - k) .none) := by
        rw [show (((xs.size : Int) - 1) + (k : Int) * (-1)).toNat = xs.size - 1 - k by omega, ← Array.getElem?_toList, List.getD_eq_getElem?_getD, List.getElem?_eq_getElem (by rw [Array.length_toList]; omega)]
        rfl
      rw [List.filterMap_cons_some (f := fun (m : Nat) => xs[(((xs.size : Int) - 1) + (m : Int) * (-1)).toNat]?) (a := k) e]
      rfl
  rw [key xs.size (Nat.le_refl _)]
  apply List.ext_getElem?
  intro i
  by_cases hi : i < xs.size
  · rw [List.getElem?_map, List.getElem?_range hi, List.getElem?_reverse (by rw [Array.length_toList]; exact hi), Array.length_toList]
    show some (xs.toList.getD (xs.size - 1 - i) .none) = _
    rw [List.getD_eq_getElem?_getD, List.getElem?_eq_getElem (by rw [Array.length_toList]; omega)]
    rfl
  · rw [List.getElem?_eq_none (by simp; omega), List.getElem?_eq_none (by simp; omega)]
theorem adjust_back (n : Nat) : Builtin.Slice.sliceAdjust none none (-1) (n : Int) = ((n : Int) - 1, -1) := by
  unfold Builtin.Slice.sliceAdjust
  rfl
theorem places_back (n : Nat) : Builtin.Slice.slicePlaces ((n : Int) - 1) (-1) (-1) = n := by
  unfold Builtin.Slice.slicePlaces
  rw [if_neg (by decide)]
  by_cases h : (n : Int) - 1 > -1
  · rw [if_pos h, show (n : Int) - 1 - -1 - 1 = (n : Int) - 1 by omega, show -(-1 : Int) = 1 from rfl, Int.ediv_one]
    omega
  · rw [if_neg h]
    omega
section
variable {prog : Program} {w : World} {A : Around} {E : Value → Shared → Prop} {s : Shared}
theorem applied_back {sl : Addr} {t : Tok} {n : Nat} {Q : Int × Int × Nat → Shared → Prop} (hs : s.heap.IsSliceOf sl .none .none (.int (-1) t)) (h : Q ((n : Int) - 1, -1, n) s) :
    wpAny (model prog w) A (Builtin.Slice.sliceApplied (.ref sl) (pure (n : Int))) Q E s := by
  obtain ⟨o, e1, e2, e3⟩ := hs
  unfold Builtin.Slice.sliceApplied
  unfold Builtin.Slice.sliceFields
  refine wpAny_bind (wpAny_bind (wpAny_field e1 e3 (x := .none) rfl ?_))
  refine wpAny_bind (wpAny_field e1 e3 (x := .none) rfl ?_)
  refine wpAny_bind (wpAny_field e1 e3 (x := .int (-1) t) rfl ?_)
  refine wpAny_pure ?_
  refine wpAny_bind (slicePart_int ?_)
  show wpAny _ _ (if ((-1 : Int) == 0) = true then _ else _) _ _ s
  rw [if_neg (show ¬ ((-1 : Int) == 0) = true by decide)]
  refine wpAny_bind (slicePart_none (wpAny_bind (slicePart_none (wpAny_bind (wpAny_pure ?_)))))
  show wpAny _ _ (match Builtin.Slice.sliceAdjust none none (-1) (n : Int) with | (lo, hi) => pure (lo, (-1 : Int), Builtin.Slice.slicePlaces lo hi (-1))) _ _ s
  rw [adjust_back]
  show wpAny _ _ (pure ((n : Int) - 1, (-1 : Int), Builtin.Slice.slicePlaces ((n : Int) - 1) (-1) (-1))) _ _ s
  rw [places_back]
  exact wpAny_pure h
theorem item_back {t sl : Addr} {its : Array Value} {k : Tok} {Q : Value → Shared → Prop} (ht : IsTup s.heap t its) (hs : s.heap.IsSliceOf sl .none .none (.int (-1) k)) (hz : its.size ≤ sizeLine)
    (h : Q (.ref s.heap.objs.size) { s with heap := s.heap.push { cls := .type "tuple", data := .seq its.toList.reverse.toArray } }) : wpAny (model prog w) A (getItem (.ref t) (.ref sl)) Q E s := by
  have hz2 : sizeOk (.seq its.toList.reverse.toArray) := by
    show its.toList.reverse.toArray.size ≤ sizeLine
    rw [List.size_toArray, List.length_reverse, Array.length_toList]
    exact hz
  have hT : s.TypeIs (.ref sl) "slice" := by obtain ⟨o, e1, e2, _⟩ := hs; exact ⟨o, e1, e2⟩
  unfold getItem
  refine wpAny_holding ?_
  refine wpAny_bind (wpAny_sequenceKey ht.typeIs (by decide) ?_)
  refine wpAny_bind (wpAny_callSpecial?_slot (name := Str.ofString "__getitem__") ht.typeIs slot_tuple_getitem (wpAny_call_entry slot_tuple_getitem ht.typeIs entry_tuple_getitem ?_ (args_tuple_getitem _ _)))
  show wpAny _ _ (Builtin.Tuple.tupleItemsOf (.ref t) >>= fun _ => _) _ _ s
  refine wpAny_bind (tupleItemsOf_ ht (wpAny_bind (wpAny_typeOf hT ?_)))
  rw [if_pos (show (Value.type "slice" == Value.type "slice") = true by decide)]
  refine wpAny_bind (applied_back hs ?_)
  show wpAny _ _ (if (((its.size : Int) - 1) == 0 && (-1 : Int) == 1 && its.size == its.size) = true then _ else _) _ _ s
  have no : ¬ (((its.size : Int) - 1) == 0 && (-1 : Int) == 1 && its.size == its.size) = true := by
    rw [show ((-1 : Int) == 1) = false from rfl, Bool.and_false, Bool.false_and]
    exact Bool.false_ne_true
  rw [if_neg no, back_pick]
  first
    | exact wpAny_bind (m := Builtin.Tuple.tupleExact _) (wpAny_newObj_type (wpAny_pure ⟨_, rfl, wpAny_pure h⟩) hz2)
    | exact wpAny_bind (m := Builtin.Tuple.tupleExact _) (wpAny_newObj_type (wpAny_bind (wpAny_pure (wpAny_pure ⟨_, rfl, wpAny_pure h⟩))) hz2)
    | exact wpAny_bind (wpAny_bind (m := Builtin.Tuple.tupleExact _) (wpAny_newObj_type (wpAny_pure (wpAny_pure ⟨_, rfl, wpAny_pure h⟩)) hz2))
    | exact wpAny_bind (wpAny_bind (m := Builtin.Tuple.tupleExact _) (wpAny_newObj_type (wpAny_pure ⟨_, rfl, wpAny_pure h⟩) hz2))
end
/-- t[::-1] -/
def tRevT (K : PySem.W.Frag) (te : TE) : TE := fun σ H Q => te σ H fun x H1 => ∃ a xs, x = .ref a ∧ SqT K H1 a xs ∧ ∀ (r : Addr) (H' : Hp), Same H1 H' → SqT K H' r xs.reverse → Q (.ref r) H'
theorem pe_revT {X : Cx} {e : Expr} {te : TE} {k : Nat} {p1 p2 p3 pos : Pos} (he : PE X e te) : PE X (.Subscript e (.Slice none none (some (.UnaryOp .USub (.Constant (.int 1) k p1) p2)) p3) pos) (tRevT X.K te) := by
  refine ⟨fun pins s σ H Q I h => Subscript_ (thn (he.run pins s σ H _ I h) fun v sA ⟨x, G, J, rx, a, xs, ex, hx, q⟩ => ?_)⟩
  subst ex
  cases rx
  have po : PO X (some (.UnaryOp .USub (.Constant (.int 1) k p1) p2)) (tPart (tUn (rU fun i => .int (-i)) (tC (.int 1)))) := po_some (pe_un un_neg pe_int)
  have nothing : ∀ {sN : Shared}, Inv X pins σ G sN → wpAny (model X.prog X.w) X.A (evalPart none X.env) (fun u s' => ∃ o H', Inv X pins σ H' s' ∧ IsPart u o ∧ o = none ∧ H' = G) X.xe sN := fun {sN} JN =>
    po_none.run pins sN σ G (fun o H' => o = none ∧ H' = G) JN ⟨rfl, rfl⟩
  refine wpAny_Slice (thn (nothing J) fun lo sB ⟨_, _, JB, plo, elo, eG⟩ => ?_)
  subst elo eG
  refine thn (nothing JB) fun up sC ⟨_, _, JC, pup, eup, eG⟩ => ?_
  subst eup eG
  refine thn (po.run pins sC σ _ (fun o H' => o = some (-1) ∧ H' = _) JC ⟨1, rfl, -1, rfl, rfl, rfl⟩) fun by_ sD ⟨_, _, JD, pby, eby, eG⟩ => ?_
  subst eby eG
  cases plo
  cases pup
  obtain ⟨tk, rfl⟩ : ∃ tk, by_ = .int (-1) tk := by
    cases pby with
    | int i t => exact ⟨t, rfl⟩
  have JS : Inv X pins σ _ { sD with heap := sD.heap.push { cls := .type "slice", data := .fields #[.none, .none, .int (-1) tk] } } := JD.kept (t' := sD.toks) fun b ob z => Heap.get?_push_of_some _ z
  obtain ⟨its, r, ht, hz⟩ := JS.tuple hx
  have hlen := r.length
  show wpAny (model X.prog X.w) X.A (subscriptTail e (.Slice none none (some (.UnaryOp .USub (.Constant (.int 1) k p1) p2)) p3) (.ref a) (.ref sD.heap.objs.size)) (EP X pins σ Q) X.xe _
  refine tail_any (ops := [.ref a, .ref sD.heap.objs.size]) ht.typeIs PyProof.Rows.slot_tuple_getitem.lookup ?_ (by with_unfolding_all rfl)
  refine item_back ht (Heap.IsSliceOf.new _ .none .none (.int (-1) tk)) (by rw [List.size_toArray, ← hlen]; exact hz) ?_
  refine ⟨.ref _, _, JS.laid (t' := sD.toks) (o := .tup xs.reverse) (fun b ob z => Heap.get?_push_of_some _ z) (Nat.le_refl _) ?_, rfl, q _ _ (same_upd (JS.hok.fresh (Nat.le_refl _))) (SqT.of upd_same)⟩
  exact ⟨by rw [List.length_reverse]; exact hz, _, r.reverse, IsTup.new _ _⟩
end Lp
namespace Lp
open PySem PySem.Spec PyProof.Rows L2
theorem call_repr_bool {X : Cx} : CallR X (.builtin "repr") (fun xs H Q => ∃ b : Bool, xs = [.bl b] ∧ Q (.str (if b = true then "True" else "False")) H) := by
  intro pins s σ H xs us Q I r h
  obtain ⟨b, rfl, q⟩ := h
  obtain ⟨u, rfl, t⟩ := vals1 r
  cases t
  exact PySem.P.repr_of_bool ⟨.str _, H, I.tok _, ⟨_, rfl⟩, q⟩
/-- a constant ahead of other arguments -/
theorem argC {σ : L2.St} {H : Hp} {v : V} {t : TA} {k : List V → Hp → Prop} (h : t σ H fun xs H1 => k (v :: xs) H1) : tCons (tC v) t σ H k := h
theorem asgN_mk {t : TE} {i : Nat} {C : TS} {D : Ends} {σ : L2.St} {H : Hp} (h : t σ H fun v H1 => C D (σ.set i (some v)) H1) : tSeq (tAsg t (gName i)) C D σ H := h
theorem asgL_mk {t : TE} {i : Nat} {D : Ends} {σ : L2.St} {H : Hp} (h : t σ H fun v H1 => D.nx (σ.set i (some v)) H1) : tAsg t (gName i) D σ H := h
theorem gN_mk {v : V} {i : Nat} {C : TS} {D : Ends} {σ : L2.St} {H : Hp} (h : C D (σ.set i (some v)) H) : gName i v σ H (fun σ2 H2 => C D σ2 H2) := h
theorem forT_mk {K : PySem.W.Frag} {te : TE} {g : TG} {b C : TS} {D : Ends} {σ : L2.St} {H : Hp} (h : te σ H fun x H1 => ∃ a, x = .ref a ∧ (∃ xs, SqT K H1 a xs) ∧ tFor (fun σ H R => R (Itt K a) H) g b { D with nx := C D } σ H1) : tSeq (tFor (iTup K te) g b) C D σ H := h
theorem forL_mk {K : PySem.W.Frag} {te : TE} {g : TG} {b : TS} {D : Ends} {σ : L2.St} {H : Hp} (h : te σ H fun x H1 => ∃ a, x = .ref a ∧ (∃ xs, SqL K H1 a xs) ∧ tFor (fun σ H R => R (Itl K a) H) g b D σ H1) : tFor (iList K te) g b D σ H := h
section
variable {K : PySem.W.Frag} {H H' : Hp} {σ : L2.St}
/-- some data -/
def Dat (K : PySem.W.Frag) (H : Hp) (v : V) : Prop := ∃ d, Dp K H v d
theorem Dat.same {v : V} (h : Dat K H v) (s : Same H H') : Dat K H' v := by
  obtain ⟨d, h⟩ := h
  exact ⟨d, (dp_same s).1 h⟩
def DatAll (K : PySem.W.Frag) (H : Hp) (vs : List V) : Prop := ∀ v ∈ vs, Dat K H v
theorem DatAll.same {vs : List V} (h : DatAll K H vs) (s : Same H H') : DatAll K H' vs := fun v hv => (h v hv).same s
theorem DatAll.dp : ∀ {vs : List V}, DatAll K H vs → ∃ ds, DpAll K H vs ds
  | [], _ => ⟨[], .nil⟩
  | v :: vs, h => by
    obtain ⟨d, h1⟩ := h v List.mem_cons_self
    obtain ⟨ds, h2⟩ := DatAll.dp (vs := vs) fun u hu => h u (List.mem_cons_of_mem _ hu)
    exact ⟨d :: ds, .cons h1 h2⟩
theorem DatAll.of : ∀ {vs : List V} {ds : List PyData}, DpAll K H vs ds → DatAll K H vs
  | _, _, .nil => fun _ hv => absurd hv List.not_mem_nil
  | _, _, .cons h1 h2 => fun v hv => by
    rcases List.mem_cons.mp hv with rfl | hv
    · exact ⟨_, h1⟩
    · exact DatAll.of h2 v hv
theorem DatAll.tup {a : Addr} {xs : List V} (h : DatAll K H xs) (hs : SqT K H a xs) : Dat K H (.ref a) := by
  obtain ⟨ds, h⟩ := h.dp
  exact ⟨_, .tup hs h⟩
theorem DatAll.lst {a : Addr} {xs : List V} (h : DatAll K H xs) (hs : SqL K H a xs) : Dat K H (.ref a) := by
  obtain ⟨ds, h⟩ := h.dp
  exact ⟨_, .lst hs h⟩
theorem DatAll.app {xs ys : List V} (h1 : DatAll K H xs) (h2 : DatAll K H ys) : DatAll K H (xs ++ ys) := fun v hv => by
  rcases List.mem_append.mp hv with h | h
  · exact h1 v h
  · exact h2 v h
theorem DatAll.one {v : V} (h : Dat K H v) : DatAll K H [v] := fun u hu => by
  rw [List.mem_singleton.mp hu]
  exact h
theorem DatAll.sub {xs ys : List V} (h : DatAll K H xs) (hs : ∀ v ∈ ys, v ∈ xs) : DatAll K H ys := fun v hv => h v (hs v hv)
/-- an expression that makes some data, and keeps what there is; so many of them -/
def Yl (K : PySem.W.Frag) (σ : L2.St) (H : Hp) (t : TE) : Prop := ∀ (H1 : Hp) (Q : VK), Same H H1 → (∀ v H2, Same H1 H2 → Dat K H2 v → Q v H2) → t σ H1 Q
def Ys (K : PySem.W.Frag) (σ : L2.St) (H : Hp) (n : Nat) (t : TA) : Prop := ∀ (H1 : Hp) (k : List V → Hp → Prop), Same H H1 → (∀ vs H2, Same H1 H2 → DatAll K H2 vs → vs.length = n → k vs H2) → t σ H1 k
theorem ys_nil : Ys K σ H 0 tNil := fun H1 k _ q => q [] H1 (Same.refl _) (fun _ h => absurd h List.not_mem_nil) rfl
theorem ys_cons {n : Nat} {t : TE} {ts : TA} (h1 : Yl K σ H t) (h2 : Ys K σ H n ts) : Ys K σ H (n + 1) (tCons t ts) := fun H1 k s q =>
  h1 H1 _ s fun v H2 s2 d2 => h2 H2 _ (Same.trans s s2) fun vs H3 s3 d3 l => q (v :: vs) H3 (Same.trans s2 s3) (fun u hu => by
    rcases List.mem_cons.mp hu with rfl | hu
    · exact d2.same s3
    · exact d3 u hu) (by rw [List.length_cons, l])
theorem yl_var {i : Nat} {v : V} (h : σ[i]? = some (some v)) (d : Dat K H v) : Yl K σ H (tVar i) := fun H1 Q s q => ⟨v, h, q v H1 (Same.refl _) (d.same s)⟩
theorem yl_int (i : Int) : Yl K σ H (tC (.int i)) := fun H1 Q _ q => q (.int i) H1 (Same.refl _) ⟨_, .int i⟩
theorem yl_bl (b : Bool) : Yl K σ H (tC (.bl b)) := fun H1 Q _ q => q (.bl b) H1 (Same.refl _) ⟨_, .bl b⟩
theorem yl_non : Yl K σ H (tC .non) := fun H1 Q _ q => q .non H1 (Same.refl _) ⟨_, .non⟩
theorem yl_str (x : Str) : Yl K σ H (tC (.str x)) := fun H1 Q _ q => q (.str x) H1 (Same.refl _) ⟨_, .str x⟩
theorem yl_tup {n : Nat} {ts : TA} (h : Ys K σ H n ts) (hn : n ≤ 1000) : Yl K σ H (tTup ts) := fun H1 Q s q =>
  h H1 _ s fun vs H2 s2 d l => ⟨Nat.le_of_lt (small1000 (by omega)), fun a ha => q (.ref a) _ (Same.trans s2 (same_upd ha)) ((d.same (same_upd ha)).tup (SqT.of upd_same))⟩
theorem yl_lst {n : Nat} {ts : TA} (h : Ys K σ H n ts) (hn : n ≤ 1000) : Yl K σ H (tLst ts) := fun H1 Q s q =>
  h H1 _ s fun vs H2 s2 d l => ⟨Nat.le_of_lt (small1000 (by omega)), fun a ha => q (.ref a) _ (Same.trans s2 (same_upd ha)) ((d.same (same_upd ha)).lst (SqL.of upd_same))⟩
theorem lst_mk {n : Nat} {ts : TA} {Q : VK} (h : Ys K σ H n ts) (hn : n ≤ 1000) (q : ∀ (r : Addr) (vs : List V) (H' : Hp), Same H H' → H' r = some (.lst vs) → DatAll K H' vs → vs.length = n → Q (.ref r) H') : tLst ts σ H Q :=
  h H _ (Same.refl _) fun vs _ s2 d l => ⟨Nat.le_of_lt (small1000 (by omega)), fun a ha => q a vs _ (Same.trans s2 (same_upd ha)) upd_same (d.same (same_upd ha)) l⟩
theorem tup_mk {n : Nat} {ts : TA} {Q : VK} (h : Ys K σ H n ts) (hn : n ≤ 1000) (q : ∀ (r : Addr) (vs : List V) (H' : Hp), Same H H' → H' r = some (.tup vs) → DatAll K H' vs → vs.length = n → Q (.ref r) H') : tTup ts σ H Q :=
  h H _ (Same.refl _) fun vs _ s2 d l => ⟨Nat.le_of_lt (small1000 (by omega)), fun a ha => q a vs _ (Same.trans s2 (same_upd ha)) upd_same (d.same (same_upd ha)) l⟩
/-- things + [..] -/
theorem add_mk {i n : Nat} {tl : Addr} {xs : List V} {ts : TA} {Q : VK} (hσ : σ[i]? = some (some (.ref tl))) (ht : H tl = some (.lst xs)) (hd : DatAll K H xs) (h : Ys K σ H n ts) (hn : xs.length + n ≤ 1000)
    (q : ∀ (r : Addr) (ys : List V) (H' : Hp), Same H H' → H' r = some (.lst ys) → DatAll K H' ys → ys.length = xs.length + n → Q (.ref r) H') : tOp rCat (tVar i) (tLst ts) σ H Q :=
  ⟨_, hσ, h H _ (Same.refl _) fun vs H2 s2 d l => ⟨Nat.le_of_lt (small1000 (by omega)), fun a ha => by
    have s3 := same_upd (o := .lst vs) ha
    exact cat_list (s3 _ _ (s2 _ _ ht)) upd_same (by omega) fun r H4 s4 hr => q r _ H4 (Same.trans s2 (Same.trans s3 s4)) hr ((hd.same (Same.trans s2 (Same.trans s3 s4))).app (d.same (Same.trans s3 s4))) (by rw [List.length_append, l])⟩⟩
/-- table[:p] + (guest,) -/
theorem yl_put {i j p : Nat} {a : Addr} {xs : List V} {g : V} (h1 : σ[i]? = some (some (.ref a))) (hx : SqT K H a xs) (hd : DatAll K H xs) (h2 : σ[j]? = some (some g)) (hg : Dat K H g) (hl : xs.length ≤ 8) :
    Yl K σ H (tOp (rCatA K) (tSl (rSlA K) (tVar i) tNoPart (tPart (tC (.int (p : Int))))) (tTup (tCons (tVar j) tNil))) := fun H1 Q s q => by
  refine ⟨_, h1, np_mk ⟨_, rfl, cut_to (Same.sqt s hx) fun r H2 s2 hr => ?_⟩⟩
  refine ⟨_, h2, by show 1 ≤ sizeLine; decide, fun u hu => ?_⟩
  have s3 := same_upd (o := .tup [g]) hu
  refine cat_any (Same.sqt s3 hr) (SqT.of upd_same) (by rw [List.length_take]; show _ + 1 ≤ 1000; omega) fun w H4 s4 hw => ?_
  have s14 := Same.trans s2 (Same.trans s3 s4)
  exact q _ _ s14 (((hd.same (Same.trans s s14)).sub fun v hv => List.mem_of_mem_take hv).app (DatAll.one (hg.same (Same.trans s s14))) |>.tup hw)
/-- bag[0][..:] -/
theorem picks_mk {te : TE} {Q : VK} {b l : Addr} {i : Int} {ms : List Int} (p : Nat) (h1 : σ[1]? = some (some (.ref b))) (hb : H b = some (.lst [.ref l, .int i])) (hm : SqL K H l (ms.map V.int)) (hl : ms.length = 400) (hp : p ≤ 300)
    (ht : ∀ k : Option Int → Hp → Prop, k (some (p : Int)) H → tPart te σ H k) (q : ∀ (r : Addr) (ns : List Int) (H' : Hp), Same H H' → H' r = some (.lst (ns.map V.int)) → ns.length = 400 - p → Q (.ref r) H') :
    tSl (rSlL K) (tOp (rIxL K) (tVar 1) (tC (.int 0))) (tPart te) tNoPart σ H Q := by
  refine ⟨_, h1, b, _, _, _, rfl, rfl, SqL.of hb, at_of (j := 0) rfl rfl, ht _ (np_mk (cut_list (lo := some (p : Int)) (hi := none) hm fun r H2 s2 hr => ?_))⟩
  rw [cut_drop, ← List.map_drop] at hr
  exact q r _ H2 s2 hr (by rw [List.length_drop, hl])
/-- ((0, None),) * n -/
theorem yl_rep {n : Nat} {ts : TA} {k : Nat} (h : Ys K σ H n ts) (hn : n = 1) (k2 : 2 ≤ k) (kz : k ≤ 1000) : Yl K σ H (tOp (rRepT K) (tTup ts) (tC (.int (k : Int)))) := fun H1 Q s q =>
  h H1 _ s fun vs H2 s2 d l => ⟨Nat.le_of_lt (small1000 (by omega)), fun a ha => by
    have s3 := same_upd (o := .tup vs) ha
    refine ⟨a, (k : Int), vs, rfl, rfl, SqT.of upd_same, fun z => (by rw [z] at l; subst hn; cases l), by omega, by omega, by omega, fun r hr => ?_⟩
    have s4 := same_upd (o := .tup (List.replicate (k : Int).toNat vs).flatten) hr
    refine q (.ref r) _ (Same.trans s2 (Same.trans s3 s4)) (DatAll.tup (fun v hv => ?_) (SqT.of upd_same))
    obtain ⟨ws, hw, hv⟩ := List.mem_flatten.mp hv
    rw [List.eq_of_mem_replicate hw] at hv
    exact (d v hv).same (Same.trans s3 s4)⟩
end
end Lp
namespace Lp
open PySem PySem.Spec PyProof.Rows L2
section
variable {P : Program} {w : World} {K : PySem.W.Frag} {mg : Str → Option Value} {base : Heap}
theorem mod_nat (i : Int) {m : Int} (hm : 0 < m) : ∃ p : Nat, i % m = (p : Int) ∧ (p : Int) < m := by
  have h1 := Int.emod_nonneg i (show m ≠ 0 by omega)
  have h2 := Int.emod_lt_of_pos i hm
  exact ⟨(i % m).toNat, by omega, by omega⟩
theorem okd_tab {t : List Guest} (h : t.length ≤ 8) : Okd 8 2 (tabD t) := .tup (by rw [List.length_map]; exact h) fun d hd => by
  obtain ⟨g, hg, rfl⟩ := List.mem_map.mp hd
  refine .tup (by show 2 ≤ 8; decide) fun d hd => ?_
  simp only [List.mem_cons, List.not_mem_nil, or_false] at hd
  rcases hd with rfl | rfl
  · exact .int _
  · cases g.2 with
    | none => exact .non
    | some m => exact .int m
theorem sc_law : FnScope ["script", "bag", "table", "once", "things", "far", "guest", "thing"] ["script"] (defScope s_law) := ⟨rfl, rfl, rfl, by decide +kernel, rfl, by decide +kernel, by decide +kernel⟩
theorem ok_law {f : Addr} {fd : FuncData} (F : L2.Fun K "law" "law" s_law f fd) (B : Bls mg) (c_law_bags : Cal P w K mg base 3 "_law_bags" (spBags K)) (c_law_table : Cal P w K mg base 3 "_law_table" (spLawTable K))
    (c_law_odd : Cal P w K mg base 1 "_law_odd" (spOdd K)) (c_law_spoilt : Cal P w K mg base 4 "_law_spoilt" (spSpoilt K 8 2)) (m_law_spoilt : Cal P w K mg base 7 "_law_spoilt" (spSpoilt K 9 5)) (c_is_table : Cal P w K mg base 3 "is_table" (spTable K)) (c_law_is_table : Cal P w K mg base 2 "_law_is_table" (spTable K)) : FnOk P w K mg base L2.CX0 8 f fd ["script"] (spLaw K) := by
  refine F.ok sc_law (fun vs H Q E h => ?_) (fun cdv A outer s H vs Q E hr h => ?_)
  · obtain ⟨a, ns, rfl, _⟩ := h
    rfl
  · obtain ⟨a, ns, rfl, hs, hl, q⟩ := h
    refine ⟨_, (pss_cons (ps_for PassesOwn.never rfl (pi_list (pe_g c_law_bags hr (pa_cons (pv 0) (pa_cons pe_int pa_nil)))) (pg_name (i := 1) sc_law.nd rfl (Or.inl rfl))
      (pss_cons (ps_set (i := 2) sc_law.nd rfl (Or.inl rfl) (pe_g c_law_table hr (pa_cons (pv 1) (pa_cons pe_int (pa_cons (pe_op op_add (pe_op op_pow pe_int pe_int) pe_int) pa_nil)))))
      (pss_cons (ps_set (i := 3) sc_law.nd rfl (Or.inl rfl) (pe_g c_law_spoilt hr (pa_cons (pv 2) (pa_cons (pe_slice sl_list (pe_ix ix_list (pv 1) pe_int (fun _ _ => rfl)) (po_some (pe_op op_mod (pe_ix ix_list (pv 1) pe_int (fun _ _ => rfl)) pe_int)) po_none) pa_nil))))
      (pss_cons (ps_set (i := 4) sc_law.nd rfl (Or.inl rfl) (pe_lst (pa_cons (pv 2) (pa_cons (pe_callTy call_list_of (by rfl) B.list (by decide +kernel) (pa_cons (pv 2) pa_nil)) (pa_cons (pe_revT (pv 2)) (pa_cons (pe_tup pa_nil) pa_nil))))))
      (pss_cons (ps_set (i := 4) sc_law.nd rfl (Or.inl rfl) (pe_op op_cat (pv 4) (pe_lst (pa_cons (pv 3) (pa_cons (pe_g m_law_spoilt hr (pa_cons (pv 3) (pa_cons (pe_slice sl_list (pe_ix ix_list (pv 1) pe_int (fun _ _ => rfl)) (po_some (pe_op op_add (pe_op op_mod (pe_ix ix_list (pv 1) pe_int (fun _ _ => rfl)) pe_int) pe_int)) po_none) pa_nil))) (pa_cons (pe_ix ix_tup (pv 2) pe_int (fun _ _ => rfl)) pa_nil))))))
      (pss_cons (ps_set (i := 5) sc_law.nd rfl (Or.inl rfl) (pe_op op_pow pe_int pe_int))
      (pss_cons (ps_for PassesOwn.never rfl (pi_tup (pe_tup (pa_cons (pe_tup (pa_cons (pv 5) (pa_cons (pv 5) pa_nil))) (pa_cons (pe_tup (pa_cons (pe_op op_add (pv 5) pe_int) (pa_cons pe_int pa_nil))) (pa_cons (pe_tup (pa_cons pe_int (pa_cons (pe_op op_add (pv 5) pe_int) pa_nil))) (pa_cons (pe_tup (pa_cons (pe_un un_neg pe_int) (pa_cons pe_int pa_nil))) (pa_cons (pe_tup (pa_cons pe_int (pa_cons (pe_un un_neg pe_int) pa_nil))) (pa_cons (pe_tup (pa_cons pe_bl (pa_cons pe_int pa_nil))) (pa_cons (pe_tup (pa_cons pe_int (pa_cons pe_bl pa_nil))) pa_nil))))))))) (pg_name (i := 6) sc_law.nd rfl (Or.inl rfl))
      (pss_one (ps_set (i := 4) sc_law.nd rfl (Or.inl rfl) (pe_op op_cat (pv 4) (pe_lst (pa_cons (pe_tup (pa_cons (pv 6) pa_nil)) (pa_cons (pe_op op_catA (pe_slice sl_tupA (pv 2) po_none (po_some pe_int)) (pe_tup (pa_cons (pv 6) pa_nil))) (pa_cons (pe_op op_catA (pe_slice sl_tupA (pv 2) po_none (po_some pe_int)) (pe_tup (pa_cons (pv 6) pa_nil))) pa_nil))))))))
      (pss_cons (ps_set (i := 4) sc_law.nd rfl (Or.inl rfl) (pe_op op_cat (pv 4) (pe_lst (pa_cons (pe_op op_repT (pe_tup (pa_cons (pe_tup (pa_cons pe_int (pa_cons pe_non pa_nil))) pa_nil)) pe_int) (pa_cons (pe_op op_repT (pe_tup (pa_cons (pe_tup (pa_cons pe_int (pa_cons pe_non pa_nil))) pa_nil)) pe_int) (pa_cons (pe_tup (pa_cons (pe_tup (pa_cons pe_non (pa_cons pe_int pa_nil))) pa_nil)) (pa_cons (pe_tup (pa_cons (pe_tup (pa_cons pe_int pa_nil)) pa_nil)) pa_nil)))))))
      (pss_cons (ps_set (i := 4) sc_law.nd rfl (Or.inl rfl) (pe_op op_cat (pv 4) (pe_lst (pa_cons (pe_tup (pa_cons (pe_tup (pa_cons pe_int (pa_cons pe_int (pa_cons pe_int pa_nil)))) pa_nil)) (pa_cons (pe_tup (pa_cons (pe_lst (pa_cons pe_int (pa_cons pe_int pa_nil))) pa_nil)) (pa_cons (pe_tup (pa_cons (pe_tup (pa_cons pe_int (pa_cons pe_str pa_nil))) pa_nil)) pa_nil))))))
      (pss_one (ps_for PassesOwn.never rfl (pi_list (pe_op op_cat (pv 4) (pe_lst (pa_cons (pe_g c_law_odd hr (pa_cons (pe_slice sl_list (pe_ix ix_list (pv 1) pe_int (fun _ _ => rfl)) (po_some (pe_op op_mod (pe_ix ix_list (pv 1) pe_int (fun _ _ => rfl)) pe_int)) po_none) pa_nil)) (pa_cons (pe_g c_law_odd hr (pa_cons (pe_slice sl_list (pe_ix ix_list (pv 1) pe_int (fun _ _ => rfl)) (po_some (pe_op op_add (pe_op op_mod (pe_ix ix_list (pv 1) pe_int (fun _ _ => rfl)) pe_int) pe_int)) po_none) pa_nil)) pa_nil))))) (pg_name (i := 7) sc_law.nd rfl (Or.inl rfl))
      (pss_one (ps_if (pt_cmpR op_ne (pe_callB call_repr_bool (by rfl) B.repr (by decide +kernel) (pa_cons (pe_g c_is_table hr (pa_cons (pv 7) pa_nil)) pa_nil)) (pe_callB call_repr_bool (by rfl) B.repr (by decide +kernel) (pa_cons (pe_g c_law_is_table hr (pa_cons (pv 7) pa_nil)) pa_nil)) (nomark _))
      (pss_one (ps_ret pe_bl))
      pss_nil)))))))))))))
      (pss_one (ps_ret pe_bl))), ?_⟩
    refine ⟨_, rfl, a, ns, 10, rfl, hs, by decide, by decide, fun l bs H1 s1 nl hbs hba => ⟨l, rfl, ⟨_, SqL.of hbs⟩, ?_⟩⟩
    refine for_list (K := K) (a := l) (xs := bs.map V.ref) (fun j σ H' => ∃ (v1 v2 v3 v4 v5 v6 v7 : Option V), σ = [some (.ref a), v1, v2, v3, v4, v5, v6, v7] ∧ Evo H1 H') ⟨none, none, none, none, none, none, none, rfl, Evo.refl _⟩ ?_ ?_ ?_
    · rintro j σ H' hj ⟨v1, v2, v3, v4, v5, v6, v7, rfl, ev⟩
      exact SqL.of (ev.refsH hbs)
    · rintro j x σ H2 hx ⟨v1, v2, v3, v4, v5, v6, v7, rfl, ev⟩
      rw [List.getElem?_map] at hx
      obtain ⟨b, hb, rfl⟩ : ∃ b, bs[j]? = some b ∧ x = .ref b := by
        cases e : bs[j]? with
        | none => rw [e] at hx; cases hx
        | some b => rw [e] at hx; exact ⟨b, rfl, (Option.some.inj hx).symm⟩
      have Ba : BagAt K H2 b := (hba b (List.mem_of_getElem? hb)).evo ev
      have p18 : (10 : Int) ^ (18 : Int).toNat = 1000000000000000000 := by decide
      -- table
      refine ⟨_, rfl, argC ?_⟩
      refine ⟨_, _, rfl, rfl, ⟨by decide, by decide, by decide⟩, _, _, rfl, rfl, nil_mk ?_⟩
      rw [p18]
      refine ⟨b, 8, _, rfl, Ba, by decide, by decide, by decide, fun ta t H3 e3 tb t1 t8 lim => ?_⟩
      have ok : TabOk t := lim.ok (by decide) t1 (by omega)
      obtain ⟨xs, hxs, hlx, hgx⟩ := tb.open
      obtain ⟨bl, bi, ms, hbl, bi0, hms, hm4, hmr⟩ := Ba.evo e3
      have ev3 := ev.trans e3
      -- once
      obtain ⟨p1, hp1, lp1⟩ := mod_nat bi (m := 200) (by decide)
      refine nx_mk ?_
      refine renorm (σ' := [some (.ref a), some (.ref b), some (.ref ta), v3, v4, v5, v6, v7]) rfl ?_
      refine ⟨_, rfl, picks_mk p1 rfl hbl hms hm4 (by omega) (fun k hk => ⟨_, rfl, b, _, _, _, rfl, rfl, SqL.of hbl, at_of (j := 1) rfl rfl, _, _, rfl, rfl, by show (0 : Int) < 200; decide, _, rfl, by rw [hp1]; exact hk⟩) fun r1 ns1 H4 s4 hr1 ln1 => ?_⟩
      refine ⟨.ref ta, tabD t, r1, ns1, H4, rfl, Same.refl _, (dp_same s4).1 tb, okd_tab (by omega), SqL.of hr1, by omega, fun once d1 H5 s5 lv1 od1 => ?_⟩
      have hd1 : Dp K H5 once d1 := lv1 H5 fun _ _ h _ => h
      have s35 := Same.trans s4 s5
      have hbl5 := s35 _ _ hbl
      have hms5 := (Same.evo s35).ints hms
      have hxs5 := Same.sqt s35 hxs
      have tb5 : TableAt K H5 ta t := (dp_same s35).1 tb
      have dxs5 : DatAll K H5 xs := fun v hv => by
        obtain ⟨i, hi⟩ := List.mem_iff_getElem?.mp hv
        have il : i < t.length := by rw [← hlx]; exact (List.getElem?_eq_some_iff.mp hi).1
        obtain ⟨p, h1, h2⟩ := hgx i _ (List.getElem?_eq_getElem il)
        rw [hi] at h1
        cases h1
        refine (DatAll.tup (fun v hv => ?_) (Same.sqt s35 h2))
        simp only [List.mem_cons, List.not_mem_nil, or_false] at hv
        rcases hv with rfl | rfl
        · exact ⟨_, .int _⟩
        · cases t[i].2 with
          | none => exact ⟨_, .non⟩
          | some m => exact ⟨_, .int m⟩
      have dta5 : Dat K H5 (.ref ta) := ⟨_, tb5⟩
      have don5 : Dat K H5 once := ⟨_, hd1⟩
      have ev5 : Evo H1 H5 := ev3.trans (Same.evo s35)
      -- things
      refine nx_mk ?_
      refine renorm (σ' := [some (.ref a), some (.ref b), some (.ref ta), some once, v4, v5, v6, v7]) rfl ?_
      refine asgN_mk (lst_mk (K := K) (ys_cons (yl_var rfl dta5) (ys_cons (fun G Q' sg q' => ⟨_, rfl, ta, xs, rfl, .inr (Same.sqt sg hxs5), fun l hl => q' (.ref l) _ (same_upd hl) (((dxs5.same sg).same (same_upd hl)).lst (SqL.of upd_same))⟩)
        (ys_cons (fun G Q' sg q' => ⟨_, rfl, ta, xs, rfl, Same.sqt sg hxs5, fun r G2 s2 hr => q' (.ref r) G2 s2 ((((dxs5.same sg).same s2).sub fun v hv => List.mem_reverse.mp hv).tup hr)⟩) (ys_cons (yl_tup ys_nil (by decide)) ys_nil)))) (by decide) fun tl vs H7 s57 g7 da7 l6 => ?_)
      -- once and twice spoilt
      obtain ⟨p2, hp2, lp2⟩ := mod_nat bi (m := 150) (by decide)
      obtain ⟨x0, hx0⟩ : ∃ x0, xs[0]? = some x0 := ⟨_, List.getElem?_eq_getElem (by omega)⟩
      refine renorm (σ' := [some (.ref a), some (.ref b), some (.ref ta), some once, some (.ref tl), v5, v6, v7]) rfl ?_
      refine asgN_mk (add_mk (K := K) rfl g7 da7 (ys_cons (yl_var rfl (don5.same s57)) (ys_cons (fun G Q' sg q' => ⟨_, rfl, picks_mk (p2 + 20) rfl (sg _ _ (s57 _ _ hbl5)) ((Same.evo (Same.trans s57 sg)).ints hms5) hm4 (by omega) (fun k hk => ⟨_, rfl, b, _, _, _, rfl, rfl, SqL.of (sg _ _ (s57 _ _ hbl5)), at_of (j := 1) rfl rfl, _, _, rfl, rfl, by show (0 : Int) < 150; decide, _, _, rfl, rfl, _, rfl, by rw [hp2]; exact hk⟩)
        fun r ns G2 s2 hr ln => ⟨once, d1, r, ns, G2, rfl, Same.refl _, (dp_same (Same.trans (Same.trans s57 sg) s2)).1 hd1, od1, SqL.of hr, by omega, fun v d G3 s3 lv od => q' v G3 (Same.trans s2 s3) ⟨d, lv G3 fun _ _ h _ => h⟩⟩⟩)
        (ys_cons (fun G Q' sg q' => ⟨_, rfl, ta, _, _, x0, rfl, rfl, Same.sqt (Same.trans s57 sg) hxs5, at_of (j := 0) rfl hx0, q' x0 G (Same.refl _) (dxs5.same (Same.trans s57 sg) x0 (List.mem_of_getElem? hx0))⟩) ys_nil))) (by omega) fun t2 ys8 H8 s8 g8 da8 l8 => ?_)
      have s58 := Same.trans s57 s8
      -- far
      refine asgN_mk ⟨_, _, rfl, rfl, ⟨by decide, by decide, by decide⟩, ?_⟩
      refine renorm (σ' := [some (.ref a), some (.ref b), some (.ref ta), some once, some (.ref t2), some (.int 1000000000000000000), v6, v7]) (by rw [← p18]; rfl) ?_
      have yadd : ∀ i : Int, ∀ G : Hp, Yl K [some (.ref a), some (.ref b), some (.ref ta), some once, some (.ref t2), some (.int 1000000000000000000), v6, v7] G (tOp (rI0 fun i j => .int (i + j)) (tVar 5) (tC (.int i))) := fun i G G1 Q' _ q' => ⟨_, rfl, _, _, rfl, rfl, q' _ G1 (Same.refl _) ⟨_, .int _⟩⟩
      have yneg : ∀ G : Hp, Yl K [some (.ref a), some (.ref b), some (.ref ta), some once, some (.ref t2), some (.int 1000000000000000000), v6, v7] G (tUn (rU fun i => .int (-i)) (tC (.int 1))) := fun G G1 Q' _ q' => ⟨_, rfl, q' _ G1 (Same.refl _) ⟨_, .int _⟩⟩
      have yfar : ∀ G : Hp, Yl K [some (.ref a), some (.ref b), some (.ref ta), some once, some (.ref t2), some (.int 1000000000000000000), v6, v7] G (tVar 5) := fun G => yl_var rfl ⟨_, .int _⟩
      have y2 : ∀ {G : Hp} {x y : TE}, Yl K [some (.ref a), some (.ref b), some (.ref ta), some once, some (.ref t2), some (.int 1000000000000000000), v6, v7] G x → Yl K [some (.ref a), some (.ref b), some (.ref ta), some once, some (.ref t2), some (.int 1000000000000000000), v6, v7] G y → Yl K [some (.ref a), some (.ref b), some (.ref ta), some once, some (.ref t2), some (.int 1000000000000000000), v6, v7] G (tTup (tCons x (tCons y tNil))) := fun h1 h2 => yl_tup (ys_cons h1 (ys_cons h2 ys_nil)) (by decide)
      refine forT_mk (tup_mk (K := K) (ys_cons (y2 (yfar _) (yfar _)) (ys_cons (y2 (yadd _ _) (yl_int _)) (ys_cons (y2 (yl_int _) (yadd _ _)) (ys_cons (y2 (yneg _) (yl_int _)) (ys_cons (y2 (yl_int _) (yneg _)) (ys_cons (y2 (yl_bl _) (yl_int _)) (ys_cons (y2 (yl_int _) (yl_bl _)) ys_nil))))))) (by decide) fun ga gs H10 s8t g10 da10 l9 => ?_)
      have s5t := Same.trans s58 s8t
      refine ⟨ga, rfl, ⟨_, SqT.of g10⟩, ?_⟩
      refine for_tup (K := K) (a := ga) (xs := gs) (fun j σ H' => ∃ (tl : Addr) (ys : List V) (v6 v7 : Option V), σ = [some (.ref a), some (.ref b), some (.ref ta), some once, some (.ref tl), some (.int 1000000000000000000), v6, v7] ∧ Same H10 H' ∧ H' tl = some (.lst ys) ∧ DatAll K H' ys ∧ ys.length = 7 + 3 * j) ⟨t2, ys8, v6, v7, rfl, Same.refl _, s8t _ _ g8, da8.same s8t, by rw [l8, l6]⟩ ?_ ?_ ?_
      · rintro j σ H' hj ⟨tl, ys, v6, v7, rfl, sm, g, da, ln⟩
        exact SqT.of (sm _ _ g10)
      · rintro j x σ H' hx ⟨tl, ys, v6, v7, rfl, sm, g, da, ln⟩
        have s5h := Same.trans s5t sm
        have jl : j < 7 := by
          have := (List.getElem?_eq_some_iff.mp hx).1
          omega
        have dx : Dat K H' x := da10.same sm x (List.mem_of_getElem? hx)
        refine gN_mk (renorm (σ' := [some (.ref a), some (.ref b), some (.ref ta), some once, some (.ref tl), some (.int 1000000000000000000), some x, v7]) rfl ?_)
        refine asgL_mk (add_mk (K := K) rfl g da (ys_cons (yl_tup (ys_cons (yl_var rfl dx) ys_nil) (by decide)) (ys_cons (yl_put (p := 1) rfl (Same.sqt s5h hxs5) (dxs5.same s5h) rfl dx (by omega)) (ys_cons (yl_put (p := 7) rfl (Same.sqt s5h hxs5) (dxs5.same s5h) rfl dx (by omega)) ys_nil))) (by omega) fun t3 ys3 H3' s3 g3 da3 l3 => ?_)
        exact ⟨t3, ys3, _, _, rfl, Same.trans sm s3, g3, da3, by rw [l3, ln]; omega⟩
      · rintro σ H' ⟨tl, ys, v6, v7, rfl, sm, g, da, ln⟩
        have s5h := Same.trans s5t sm
        -- more things
        refine asgN_mk (add_mk (K := K) rfl g da (ys_cons (yl_rep (k := 8) (ys_cons (yl_tup (ys_cons (yl_int _) (ys_cons yl_non ys_nil)) (by decide)) ys_nil) rfl (by decide) (by decide)) (ys_cons (yl_rep (k := 9) (ys_cons (yl_tup (ys_cons (yl_int _) (ys_cons yl_non ys_nil)) (by decide)) ys_nil) rfl (by decide) (by decide))
          (ys_cons (yl_tup (ys_cons (yl_tup (ys_cons yl_non (ys_cons (yl_int _) ys_nil)) (by decide)) ys_nil) (by decide)) (ys_cons (yl_tup (ys_cons (yl_tup (ys_cons (yl_int _) ys_nil) (by decide)) ys_nil) (by decide)) ys_nil)))) (by omega) fun t3 ys3 H11 s11 g11 da11 l11 => ?_)
        refine renorm (σ' := [some (.ref a), some (.ref b), some (.ref ta), some once, some (.ref t3), some (.int 1000000000000000000), v6, v7]) rfl ?_
        refine asgN_mk (add_mk (K := K) rfl g11 da11 (ys_cons (yl_tup (ys_cons (yl_tup (ys_cons (yl_int _) (ys_cons (yl_int _) (ys_cons (yl_int _) ys_nil))) (by decide)) ys_nil) (by decide)) (ys_cons (yl_tup (ys_cons (yl_lst (ys_cons (yl_int _) (ys_cons (yl_int _) ys_nil)) (by decide)) ys_nil) (by decide))
          (ys_cons (yl_tup (ys_cons (yl_tup (ys_cons (yl_int _) (ys_cons (yl_str _) ys_nil)) (by decide)) ys_nil) (by decide)) ys_nil))) (by omega) fun t4 ys4 H12 s12 g12 da12 l12 => ?_)
        refine renorm (σ' := [some (.ref a), some (.ref b), some (.ref ta), some once, some (.ref t4), some (.int 1000000000000000000), v6, v7]) rfl ?_
        have s5l := Same.trans s5h (Same.trans s11 s12)
        obtain ⟨p3, hp3, lp3⟩ := mod_nat bi (m := 300) (by decide)
        refine forL_mk (add_mk (K := K) rfl g12 da12 (ys_cons (fun G Q' sg q' => picks_mk p3 rfl (sg _ _ (s5l _ _ hbl5)) ((Same.evo (Same.trans s5l sg)).ints hms5) hm4 (by omega) (fun k hk => ⟨_, rfl, b, _, _, _, rfl, rfl, SqL.of (sg _ _ (s5l _ _ hbl5)), at_of (j := 1) rfl rfl, _, _, rfl, rfl, by show (0 : Int) < 300; decide, _, rfl, by rw [hp3]; exact hk⟩)
          fun r ns G2 s2 hr ln => ⟨r, ns, rfl, SqL.of hr, by omega, fun v d G3 s3 lv od => q' v G3 (Same.trans s2 s3) ⟨d, lv G3 fun _ _ h _ => h⟩⟩)
          (ys_cons (fun G Q' sg q' => picks_mk (p1 + 90) rfl (sg _ _ (s5l _ _ hbl5)) ((Same.evo (Same.trans s5l sg)).ints hms5) hm4 (by omega) (fun k hk => ⟨_, rfl, b, _, _, _, rfl, rfl, SqL.of (sg _ _ (s5l _ _ hbl5)), at_of (j := 1) rfl rfl, _, _, rfl, rfl, by show (0 : Int) < 200; decide, _, _, rfl, rfl, _, rfl, by rw [hp1]; exact hk⟩)
          fun r ns G2 s2 hr ln => ⟨r, ns, rfl, SqL.of hr, by omega, fun v d G3 s3 lv od => q' v G3 (Same.trans s2 s3) ⟨d, lv G3 fun _ _ h _ => h⟩⟩) ys_nil)) (by omega) fun t5 ys5 H13 s13 g13 da13 l13 => ?_)
        refine ⟨t5, rfl, ⟨_, SqL.of g13⟩, ?_⟩
        have ev13 : Evo H1 H13 := ev5.trans (Same.evo (Same.trans s5l s13))
        refine for_list (K := K) (a := t5) (xs := ys5) (fun j σ H' => ∃ (v7 : Option V), σ = [some (.ref a), some (.ref b), some (.ref ta), some once, some (.ref t4), some (.int 1000000000000000000), v6, v7] ∧ Same H13 H') ⟨v7, rfl, Same.refl _⟩ ?_ ?_ ?_
        · rintro j σ H' hj ⟨v7, rfl, sm⟩
          exact SqL.of (sm _ _ g13)
        · rintro j x σ H' hx ⟨v7, rfl, sm⟩
          obtain ⟨d, hd⟩ := da13.same sm x (List.mem_of_getElem? hx)
          refine ⟨_, rfl, x, d, rfl, hd, fun Ha sa => nil_mk ⟨_, rfl, _, rfl, x, d, rfl, (dp_same sa).1 hd, fun Hb sb => nil_mk ⟨_, rfl, rfl, _, rfl, if_ne (next_mk ?_)⟩⟩⟩
          exact ⟨_, rfl, Same.trans sm (Same.trans sa sb)⟩
        · rintro σ H' ⟨v7, rfl, sm⟩
          exact ⟨_, _, _, _, _, _, _, rfl, ev13.trans (Same.evo sm)⟩
    · rintro σ H2 ⟨v1, v2, v3, v4, v5, v6, v7, rfl, ev⟩
      exact q H2
end
end Lp
namespace Lp
open PySem PySem.Spec PyProof.Rows L2
structure Facts (K : PySem.W.Frag) (mg : Str → Option Value) : Prop where
  bls : Bls mg
  greatest : Greatest mg
  d_is_within : DefIn K mg "is_within" s_is_within
  d_is_guest : DefIn K mg "is_guest" s_is_guest
  d_is_table : DefIn K mg "is_table" s_is_table
  d_law_cell_at : DefIn K mg "_law_cell_at" s_law_cell_at
  d_law_draws : DefIn K mg "_law_draws" s_law_draws
  d_law_bag : DefIn K mg "_law_bag" s_law_bag
  d_law_bags : DefIn K mg "_law_bags" s_law_bags
  d_law_take : DefIn K mg "_law_take" s_law_take
  d_law_far_draw : DefIn K mg "_law_far_draw" s_law_far_draw
  d_law_table : DefIn K mg "_law_table" s_law_table
  d_law_from : DefIn K mg "_law_from" s_law_from
  d_law_is_table : DefIn K mg "_law_is_table" s_law_is_table
  d_law_odd : DefIn K mg "_law_odd" s_law_odd
  d_law_spoilt : DefIn K mg "_law_spoilt" s_law_spoilt
  d_law : DefIn K mg "law" s_law
theorem fin {P : Program} {w : World} {K : PySem.W.Frag} {mg : Str → Option Value} {fa : Addr} (hfa : mg "law" = some (.ref fa)) (A : Facts K mg) :
    ∃ fd : FuncData, (∀ (s : Shared) (v : Value), BindsTo s fd ⟨[v], []⟩ [("script", v)]) ∧ ∀ base : Heap, K.In base → base.Ns mainGlobals mg → FnOk P w K mg base L2.CX0 8 fa fd ["script"] (spLaw K) := by
  obtain ⟨fl, fd, Fl, hl⟩ := A.d_law.ex
  rw [hfa] at hl
  cases hl
  refine ⟨fd, fun s v => Fl.binds1 (fun _ _ _ _ _ _ us hl => match us, hl with | [_], _ => rfl) s v, fun base KX NX => ?_⟩
  have B := A.bls
  have G := A.greatest
  have c_is_within : Cal P w K mg base 1 "is_within" (spWithin K) := A.d_is_within.cal (fun f fd F => ok_is_within F B) (fun _ _ _ _ _ _ us hl => match us, hl with | [_, _, _], _ => rfl)
  have c_is_guest : Cal P w K mg base 2 "is_guest" (spGuest K) := A.d_is_guest.cal (fun f fd F => ok_is_guest F B G c_is_within) (fun _ _ _ _ _ _ us hl => match us, hl with | [_], _ => rfl)
  have c_is_table : Cal P w K mg base 3 "is_table" (spTable K) := A.d_is_table.cal (fun f fd F => ok_is_table F B c_is_guest) (fun _ _ _ _ _ _ us hl => match us, hl with | [_], _ => rfl)
  have c_law_cell_at : Cal P w K mg base 1 "_law_cell_at" (spCell K) := A.d_law_cell_at.cal (fun f fd F => ok_cell F B) (fun _ _ _ _ _ _ us hl => match us, hl with | [_, _], _ => rfl)
  have c_law_draws : Cal P w K mg base 1 "_law_draws" spDraws := A.d_law_draws.cal (fun f fd F => ok_draws F B) (fun _ _ _ _ _ _ us hl => match us, hl with | [_, _, _], _ => rfl)
  have c_law_bag : Cal P w K mg base 2 "_law_bag" (spBag K) := A.d_law_bag.cal (fun f fd F => ok_bag F c_law_cell_at c_law_draws) (fun _ _ _ _ _ _ us hl => match us, hl with | [_, _], _ => rfl)
  have c_law_bags : Cal P w K mg base 3 "_law_bags" (spBags K) := A.d_law_bags.cal (fun f fd F => ok_bags F B c_law_bag) (fun _ _ _ _ _ _ us hl => match us, hl with | [_, _], _ => rfl)
  have c_law_take : Cal P w K mg base 1 "_law_take" (spTake K) := A.d_law_take.cal (fun f fd F => ok_take F B) (fun _ _ _ _ _ _ us hl => match us, hl with | [_, _], _ => rfl)
  have c_law_far_draw : Cal P w K mg base 2 "_law_far_draw" (spFar K) := A.d_law_far_draw.cal (fun f fd F => ok_far F B c_law_take) (fun _ _ _ _ _ _ us hl => match us, hl with | [_, _], _ => rfl)
  have c_law_table : Cal P w K mg base 3 "_law_table" (spLawTable K) := A.d_law_table.cal (fun f fd F => ok_ltable F B c_law_take c_law_far_draw) (fun _ _ _ _ _ _ us hl => match us, hl with | [_, _, _], _ => rfl)
  have c_law_from : Cal P w K mg base 1 "_law_from" (spWithin K) := A.d_law_from.cal (fun f fd F => ok_law_from F B) (fun _ _ _ _ _ _ us hl => match us, hl with | [_, _, _], _ => rfl)
  have c_law_is_table : Cal P w K mg base 2 "_law_is_table" (spTable K) := A.d_law_is_table.cal (fun f fd F => ok_law_is_table F B c_law_from) (fun _ _ _ _ _ _ us hl => match us, hl with | [_], _ => rfl)
  have c_law_odd : Cal P w K mg base 1 "_law_odd" (spOdd K) := A.d_law_odd.cal (fun f fd F => ok_law_odd F B) (fun _ _ _ _ _ _ us hl => match us, hl with | [_], _ => rfl)
  have c_law_spoilt : Cal P w K mg base 4 "_law_spoilt" (spSpoilt K 8 2) := spoilt_rec (by decide) (by decide) A.d_law_spoilt B c_law_odd 3
  have m_law_spoilt : Cal P w K mg base 7 "_law_spoilt" (spSpoilt K 9 5) := spoilt_rec (by decide) (by decide) A.d_law_spoilt B c_law_odd 6
  exact ok_law Fl B c_law_bags c_law_table c_law_odd c_law_spoilt m_law_spoilt c_is_table c_law_is_table
end Lp
open PySem PySem.W PyProof.Rows
set_option maxHeartbeats 0 in
open_top head for PySem.Challenge.rw_lastpiece_k01_tables_known
set_option maxRecDepth 100000 in
set_option maxHeartbeats 0 in
theorem PySem.Challenge.cw_lastpiece_k01_tables_known_holds : PySem.Challenge.rw_lastpiece_k01_tables_known.Holds := by
  exact head (by
  k_fill
  refine L2.walk_ofK (n := 63) (k := 8) (x := "script") (CX := L2.CX0) (sp := Lp.spLaw) rfl (by decide) rfl ⟨rfl, by decide, by decide⟩ (fun w h Y => PySem.W.kIn_of Y) ?F (fun _ _ a ns hl _ hS => ⟨a, ns, rfl, hS, hl, fun _ => rfl⟩) fun _ _ _ _ z => z
  case F =>
    intro w mg fa h KX G hmg
    refine Lp.fin hmg ⟨⟨PySem.W.mg_none_of KX G (by k_is), PySem.W.mg_none_of KX G (by k_is), PySem.W.mg_none_of KX G (by k_is), PySem.W.mg_none_of KX G (by k_is), PySem.W.mg_none_of KX G (by k_is), PySem.W.mg_none_of KX G (by k_is), PySem.W.mg_none_of KX G (by k_is), PySem.W.mg_none_of KX G (by k_is), PySem.W.mg_none_of KX G (by k_is), PySem.W.mg_none_of KX G (by k_is), PySem.W.mg_none_of KX G (by k_is), PySem.W.mg_none_of KX G (by k_is), PySem.W.mg_none_of KX G (by k_is), PySem.W.mg_none_of KX G (by k_is), PySem.W.mg_none_of KX G (by k_is), PySem.W.mg_none_of KX G (by k_is)⟩, ?_, ?_, ?_, ?_, ?_, ?_, ?_, ?_, ?_, ?_, ?_, ?_, ?_, ?_, ?_, ?_⟩
    · refine' ⟨_, PySem.W.mg_of KX G ?ag, ?rg⟩; (case ag => k_is); exact ⟨_, rfl⟩
    · refine' Lp.defIn_mk KX G ?a_0 ?l_0 ?c_0 ?k_0; (case a_0 => k_is); (case l_0 => k_is); (case c_0 => k_is); (case k_0 => k_is)
    · refine' Lp.defIn_mk KX G ?a_1 ?l_1 ?c_1 ?k_1; (case a_1 => k_is); (case l_1 => k_is); (case c_1 => k_is); (case k_1 => k_is)
    · refine' Lp.defIn_mk KX G ?a_2 ?l_2 ?c_2 ?k_2; (case a_2 => k_is); (case l_2 => k_is); (case c_2 => k_is); (case k_2 => k_is)
    · refine' Lp.defIn_mk KX G ?a_3 ?l_3 ?c_3 ?k_3; (case a_3 => k_is); (case l_3 => k_is); (case c_3 => k_is); (case k_3 => k_is)
    · refine' Lp.defIn_mk KX G ?a_4 ?l_4 ?c_4 ?k_4; (case a_4 => k_is); (case l_4 => k_is); (case c_4 => k_is); (case k_4 => k_is)
    · refine' Lp.defIn_mk KX G ?a_5 ?l_5 ?c_5 ?k_5; (case a_5 => k_is); (case l_5 => k_is); (case c_5 => k_is); (case k_5 => k_is)
    · refine' Lp.defIn_mk KX G ?a_6 ?l_6 ?c_6 ?k_6; (case a_6 => k_is); (case l_6 => k_is); (case c_6 => k_is); (case k_6 => k_is)
    · refine' Lp.defIn_mk KX G ?a_7 ?l_7 ?c_7 ?k_7; (case a_7 => k_is); (case l_7 => k_is); (case c_7 => k_is); (case k_7 => k_is)
    · refine' Lp.defIn_mk KX G ?a_8 ?l_8 ?c_8 ?k_8; (case a_8 => k_is); (case l_8 => k_is); (case c_8 => k_is); (case k_8 => k_is)
    · refine' Lp.defIn_mk KX G ?a_9 ?l_9 ?c_9 ?k_9; (case a_9 => k_is); (case l_9 => k_is); (case c_9 => k_is); (case k_9 => k_is)
    · refine' Lp.defIn_mk KX G ?a_10 ?l_10 ?c_10 ?k_10; (case a_10 => k_is); (case l_10 => k_is); (case c_10 => k_is); (case k_10 => k_is)
    · refine' Lp.defIn_mk KX G ?a_11 ?l_11 ?c_11 ?k_11; (case a_11 => k_is); (case l_11 => k_is); (case c_11 => k_is); (case k_11 => k_is)
    · refine' Lp.defIn_mk KX G ?a_12 ?l_12 ?c_12 ?k_12; (case a_12 => k_is); (case l_12 => k_is); (case c_12 => k_is); (case k_12 => k_is)
    · refine' Lp.defIn_mk KX G ?a_13 ?l_13 ?c_13 ?k_13; (case a_13 => k_is); (case l_13 => k_is); (case c_13 => k_is); (case k_13 => k_is)
    · refine' Lp.defIn_mk KX G ?a_14 ?l_14 ?c_14 ?k_14; (case a_14 => k_is); (case l_14 => k_is); (case c_14 => k_is); (case k_14 => k_is))
