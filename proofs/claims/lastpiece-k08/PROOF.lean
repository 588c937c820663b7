import PyProof.Rows.All
import Wide.All
import OpenK.AllK
import Wide.FinOn
import HandS.ForMost
import HandS.IsInst
import HandS.Codes
import HandS.Defaults
import HandS.Conv
import HandS.Walk
import HandS.Nested
import HandS.EndTab
import KE.KNestM
import HandS.TupAny
import PySem.Challenge.RW_lastpiece_k08_which_courtesies_and_enoug
set_option Elab.async false
set_option linter.all false
set_option maxRecDepth 100000
set_option maxHeartbeats 4000000
/-! The dish, piece by piece, in plain Lean. -/
namespace D
/-- guests: courtesy and enough -/
abbrev Gs := Nat → Int × Option Int
/-- what lies on the dish, what each has -/
structure S where
  left : Int
  had : Nat → Int
def wants (g : Gs) (s : S) (i : Nat) : Prop := (g i).1 < s.left ∧ ∀ m, (g i).2 = some m → s.had i < m
instance (g : Gs) (s : S) (i : Nat) : Decidable (wants g s i) :=
  match h : (g i).2 with
  | none => if h1 : (g i).1 < s.left then .isTrue ⟨h1, fun m e => by rw [h] at e; cases e⟩ else .isFalse fun z => h1 z.1
  | some m => if h1 : (g i).1 < s.left ∧ s.had i < m then .isTrue ⟨h1.1, fun m' e => by rw [h] at e; cases e; exact h1.2⟩ else .isFalse fun z => h1 ⟨z.1, z.2 m h⟩
def bump (h : Nat → Int) (i : Nat) : Nat → Int := fun j => if j = i then h j + 1 else h j
theorem bump_self (h : Nat → Int) (i : Nat) : bump h i i = h i + 1 := by simp [bump]
theorem bump_ne (h : Nat → Int) {i j : Nat} (e : j ≠ i) : bump h i j = h j := by simp [bump, e]
def vis (g : Gs) (s : S) (i : Nat) : S := if wants g s i then ⟨s.left - 1, bump s.had i⟩ else s
theorem vis_yes {g : Gs} {s : S} {i : Nat} (h : wants g s i) : vis g s i = ⟨s.left - 1, bump s.had i⟩ := if_pos h
theorem vis_no {g : Gs} {s : S} {i : Nat} (h : ¬ wants g s i) : vis g s i = s := if_neg h
/-- behind k visits -/
def run (g : Gs) (n f : Nat) (d : Int) : Nat → S
  | 0 => ⟨d, fun _ => 0⟩
  | k + 1 => vis g (run g n f d k) ((f + k) % n)
def Quiet (g : Gs) (n : Nat) (s : S) : Prop := ∀ i, i < n → ¬ wants g s i
section
variable {g : Gs} {n f : Nat} {d : Int}
theorem run_succ (k : Nat) : run g n f d (k + 1) = vis g (run g n f d k) ((f + k) % n) := rfl
theorem vis_left (s : S) (i : Nat) : (vis g s i).left ≤ s.left ∧ s.left - 1 ≤ (vis g s i).left := by
  unfold vis; split <;> simp <;> omega
theorem vis_had (s : S) (i j : Nat) : s.had j ≤ (vis g s i).had j := by
  unfold vis bump; split
  · simp only; split <;> omega
  · omega
/-- who would not take never takes again -/
theorem no_stays {s : S} {i : Nat} (j : Nat) (h : ¬ wants g s i) : ¬ wants g (vis g s j) i := by
  intro z
  apply h
  have h1 := vis_left (g := g) s j
  have h2 := vis_had (g := g) s j i
  exact ⟨by have := z.1; omega, fun m e => by have := z.2 m e; omega⟩
theorem run_left_le (k m : Nat) : (run g n f d (k + m)).left ≤ (run g n f d k).left := by
  induction m with
  | zero => exact Int.le_refl _
  | succ m ih =>
    have := vis_left (g := g) (run g n f d (k + m)) ((f + (k + m)) % n)
    rw [← Nat.add_assoc, run_succ]
    omega
theorem run_left_ge (k m : Nat) : (run g n f d k).left - m ≤ (run g n f d (k + m)).left := by
  induction m with
  | zero => simp
  | succ m ih =>
    have := vis_left (g := g) (run g n f d (k + m)) ((f + (k + m)) % n)
    rw [← Nat.add_assoc, run_succ]
    omega
theorem run_had_le (k m : Nat) (j : Nat) : (run g n f d k).had j ≤ (run g n f d (k + m)).had j := by
  induction m with
  | zero => exact Int.le_refl _
  | succ m ih =>
    have := vis_had (g := g) (run g n f d (k + m)) ((f + (k + m)) % n) j
    rw [← Nat.add_assoc, run_succ]
    omega
theorem had_nonneg (k j : Nat) : 0 ≤ (run g n f d k).had j := by
  have := run_had_le (g := g) (n := n) (f := f) (d := d) 0 k j
  rw [Nat.zero_add] at this
  exact this
theorem left_le (k : Nat) : (run g n f d k).left ≤ d := by
  have := run_left_le (g := g) (n := n) (f := f) (d := d) 0 k
  rw [Nat.zero_add] at this
  exact this
theorem no_stays_run {k i : Nat} (m : Nat) (h : ¬ wants g (run g n f d k) i) : ¬ wants g (run g n f d (k + m)) i := by
  induction m with
  | zero => exact h
  | succ m ih => exact no_stays _ ih
theorem quiet_stays {k : Nat} (hn : 0 < n) (h : Quiet g n (run g n f d k)) (m : Nat) : run g n f d (k + m) = run g n f d k := by
  induction m with
  | zero => rfl
  | succ m ih =>
    rw [← Nat.add_assoc, run_succ, ih]
    exact vis_no (h _ (Nat.mod_lt _ hn))
/-- each seat is met within a round -/
theorem met (hn : 0 < n) (k i : Nat) (hi : i < n) : ∃ j, j < n ∧ (f + (k + j)) % n = i := by
  refine ⟨(i + n - (f + k) % n) % n, Nat.mod_lt _ hn, ?_⟩
  have h1 : (f + k) % n < n := Nat.mod_lt _ hn
  rw [← Nat.add_assoc, Nat.add_mod_mod, ← Nat.mod_add_mod]
  have e2 : (f + k) % n + (i + n - (f + k) % n) = i + n := by omega
  rw [e2, Nat.add_mod_right, Nat.mod_eq_of_lt hi]
/-- no piece taken: nothing changed -/
theorem same_of_left {k m : Nat} (h : (run g n f d (k + m)).left = (run g n f d k).left) : run g n f d (k + m) = run g n f d k := by
  induction m with
  | zero => rfl
  | succ m ih =>
    have h1 := run_left_le (g := g) (n := n) (f := f) (d := d) k m
    have h2 := vis_left (g := g) (run g n f d (k + m)) ((f + (k + m)) % n)
    rw [← Nat.add_assoc, run_succ] at h
    have h3 : (run g n f d (k + m)).left = (run g n f d k).left := by omega
    have ih' := ih h3
    rw [← Nat.add_assoc, run_succ]
    by_cases w : wants g (run g n f d (k + m)) ((f + (k + m)) % n)
    · rw [vis_yes w] at h
      simp only at h
      omega
    · rw [vis_no w, ih']
theorem progress (hn : 0 < n) {k : Nat} (h : ¬ Quiet g n (run g n f d k)) : (run g n f d (k + n)).left < (run g n f d k).left := by
  apply Classical.byContradiction
  intro hh
  have hle := run_left_le (g := g) (n := n) (f := f) (d := d) k n
  have e : (run g n f d (k + n)).left = (run g n f d k).left := by omega
  apply h
  intro i hi w
  obtain ⟨j, hj, ej⟩ := met (f := f) hn k i hi
  have b1 := run_left_le (g := g) (n := n) (f := f) (d := d) k j
  have b2 := run_left_le (g := g) (n := n) (f := f) (d := d) (k + (j + 1)) (n - (j + 1))
  have e3 : k + (j + 1) + (n - (j + 1)) = k + n := by omega
  rw [e3] at b2
  have b3 := run_left_le (g := g) (n := n) (f := f) (d := d) (k + j) 1
  have b4 : (k + j) + 1 = k + (j + 1) := by omega
  rw [b4] at b3
  have s1 : run g n f d (k + j) = run g n f d k := same_of_left (by omega)
  have s2 : run g n f d (k + (j + 1)) = vis g (run g n f d (k + j)) ((f + (k + j)) % n) := rfl
  rw [s1, ej, vis_yes w] at s2
  have : (run g n f d (k + (j + 1))).left = (run g n f d k).left - 1 := by rw [s2]
  omega

/-! ### sums -/
def total : Nat → (Nat → Int) → Int
  | 0, _ => 0
  | n + 1, h => total n h + h n
theorem total_bump_out : ∀ (n : Nat) (h : Nat → Int) (i : Nat), n ≤ i → total n (bump h i) = total n h
  | 0, _, _, _ => rfl
  | n + 1, h, i, e => by
    show total n (bump h i) + bump h i n = total n h + h n
    rw [total_bump_out n h i (by omega), bump_ne h (by omega)]
theorem total_bump : ∀ (n : Nat) (h : Nat → Int) (i : Nat), i < n → total n (bump h i) = total n h + 1
  | 0, _, i, e => by omega
  | n + 1, h, i, e => by
    show total n (bump h i) + bump h i n = total n h + h n + 1
    by_cases q : i = n
    · subst q
      rw [total_bump_out _ _ _ (Nat.le_refl _), bump_self]; omega
    · rw [total_bump n h i (by omega), bump_ne h (by omega)]; omega
theorem total_zero : ∀ n : Nat, total n (fun _ => 0) = 0
  | 0 => rfl
  | n + 1 => by show total n _ + 0 = 0; rw [total_zero n]; rfl
theorem total_congr : ∀ {n : Nat} {h h' : Nat → Int}, (∀ i, i < n → h i = h' i) → total n h = total n h'
  | 0, _, _, _ => rfl
  | n + 1, h, h', e => by
    show total n h + h n = total n h' + h' n
    rw [total_congr fun i hi => e i (by omega), e n (by omega)]
theorem total_le : ∀ {n : Nat} {h h' : Nat → Int}, (∀ i, i < n → h i ≤ h' i) → total n h ≤ total n h'
  | 0, _, _, _ => Int.le_refl _
  | n + 1, h, h', e => by
    show total n h + h n ≤ total n h' + h' n
    have h1 := total_le (n := n) fun i hi => e i (by omega)
    have h2 := e n (by omega)
    omega
theorem run_sum (hn : 0 < n) (k : Nat) : total n (run g n f d k).had + (run g n f d k).left = d := by
  induction k with
  | zero => show total n (fun _ => 0) + d = d; rw [total_zero]; omega
  | succ k ih =>
    rw [run_succ]
    by_cases w : wants g (run g n f d k) ((f + k) % n)
    · rw [vis_yes w]
      show total n (bump _ _) + ((run g n f d k).left - 1) = d
      rw [total_bump n _ _ (Nat.mod_lt _ hn)]; omega
    · rw [vis_no w]; exact ih
/-! ### the rest -/
theorem left_nonneg (hn : 0 < n) (hc : ∀ i, i < n → 0 ≤ (g i).1) (hd : 0 ≤ d) (k : Nat) : 0 ≤ (run g n f d k).left := by
  induction k with
  | zero => exact hd
  | succ k ih =>
    rw [run_succ]
    by_cases w : wants g (run g n f d k) ((f + k) % n)
    · rw [vis_yes w]
      have := w.1
      have := hc _ (Nat.mod_lt (f + k) hn)
      show 0 ≤ (run g n f d k).left - 1
      omega
    · rw [vis_no w]; exact ih
instance quietDec (g : Gs) : (n : Nat) → (s : S) → Decidable (Quiet g n s)
  | 0, _ => .isTrue fun i hi => absurd hi (Nat.not_lt_zero _)
  | n + 1, s =>
    match quietDec g n s with
    | .isFalse h => .isFalse fun q => h fun i hi => q i (Nat.lt_succ_of_lt hi)
    | .isTrue h => if w : wants g s n then .isFalse fun q => q n (Nat.lt_succ_self n) w else .isTrue fun i hi => by
        by_cases e : i = n
        · rw [e]; exact w
        · exact h i (by omega)
theorem quiet_by (hn : 0 < n) (m : Nat) : Quiet g n (run g n f d (n * m)) ∨ (run g n f d (n * m)).left + m ≤ d := by
  induction m with
  | zero => right; show d + 0 ≤ d; omega
  | succ m ih =>
    rcases ih with q | q
    · left
      have := quiet_stays hn q n
      rw [Nat.mul_succ, this]; exact q
    · by_cases z : Quiet g n (run g n f d (n * m))
      · left
        have := quiet_stays hn z n
        rw [Nat.mul_succ, this]; exact z
      · right
        have := progress hn z
        rw [Nat.mul_succ]
        omega
/-- the number of visits by which it rests surely -/
def enoughVisits (n : Nat) (d : Int) : Nat := n * (d.toNat + 1)
def fin (g : Gs) (n f : Nat) (d : Int) : S := run g n f d (enoughVisits n d)
theorem fin_quiet (hn : 0 < n) (hc : ∀ i, i < n → 0 ≤ (g i).1) (hd : 0 ≤ d) : Quiet g n (fin g n f d) := by
  rcases quiet_by (g := g) (f := f) (d := d) hn (d.toNat + 1) with q | q
  · exact q
  · have := left_nonneg (f := f) hn hc hd (n * (d.toNat + 1))
    omega
theorem fin_of {k : Nat} (hn : 0 < n) (hc : ∀ i, i < n → 0 ≤ (g i).1) (hd : 0 ≤ d) (q : Quiet g n (run g n f d k)) : run g n f d k = fin g n f d := by
  have q2 := fin_quiet (f := f) hn hc hd
  unfold fin at q2 ⊢
  have e1 := quiet_stays hn q (enoughVisits n d)
  have e2 := quiet_stays hn q2 k
  rw [← e1, ← e2, Nat.add_comm]
theorem fin_eq (hn : 0 < n) (hc : ∀ i, i < n → 0 ≤ (g i).1) (hd : 0 ≤ d) {k : Nat} (hk : enoughVisits n d ≤ k) : run g n f d k = fin g n f d := by
  have q2 := fin_quiet (f := f) hn hc hd
  unfold fin at q2 ⊢
  obtain ⟨m, rfl⟩ : ∃ m, k = enoughVisits n d + m := ⟨k - enoughVisits n d, by omega⟩
  exact quiet_stays hn q2 m
end

/-! ### one piece more -/
section
variable {g : Gs} {n f : Nat} {d : Int}
/-- the run of d beside that of d + 1 -/
inductive Beside (g : Gs) (n : Nat) (s s' : S) : Prop
  | none (h1 : s'.left = s.left + 1) (h2 : s'.had = s.had)
  | some (i : Nat) (hi : i < n) (h1 : s'.left = s.left) (h2 : s'.had = bump s.had i) (h3 : s.left ≤ (g i).1)
theorem vis_beside {s s' : S} (h : Beside g n s s') (j : Nat) (hj : j < n) : Beside g n (vis g s j) (vis g s' j) := by
  rcases h with ⟨h1, h2⟩ | ⟨i, hi, h1, h2, h3⟩
  · by_cases w : wants g s j
    · have w' : wants g s' j := ⟨by have := w.1; omega, by rw [h2]; exact w.2⟩
      rw [vis_yes w, vis_yes w']
      exact .none (by simp only; omega) (by simp only; rw [h2])
    · rw [vis_no w]
      by_cases w' : wants g s' j
      · rw [vis_yes w']
        refine .some j hj (by simp only; omega) (by simp only; rw [h2]) ?_
        apply Classical.byContradiction
        intro z
        exact w ⟨by omega, by rw [← h2]; exact w'.2⟩
      · rw [vis_no w']
        exact .none h1 h2
  · by_cases e : j = i
    · subst e
      have w : ¬ wants g s j := fun z => by have := z.1; omega
      have w' : ¬ wants g s' j := fun z => by have := z.1; omega
      rw [vis_no w, vis_no w']
      exact .some j hi h1 h2 h3
    · have ej : s'.had j = s.had j := by rw [h2, bump_ne _ e]
      by_cases w : wants g s j
      · have w' : wants g s' j := ⟨by have := w.1; omega, by rw [ej]; exact w.2⟩
        rw [vis_yes w, vis_yes w']
        refine .some i hi (by simp only; omega) ?_ (by simp only; omega)
        simp only
        rw [h2]
        funext x
        unfold bump
        split <;> split <;> rfl
      · have w' : ¬ wants g s' j := fun z => w ⟨by have := z.1; omega, by rw [← ej]; exact z.2⟩
        rw [vis_no w, vis_no w']
        exact .some i hi h1 h2 h3
theorem run_beside (hn : 0 < n) (k : Nat) : Beside g n (run g n f d k) (run g n f (d + 1) k) := by
  induction k with
  | zero => exact .none rfl rfl
  | succ k ih => exact vis_beside ih _ (Nat.mod_lt _ hn)
/-- who has one more -/
theorem fin_beside (hn : 0 < n) (hc : ∀ i, i < n → 0 ≤ (g i).1) (hd : 0 ≤ d) : Beside g n (fin g n f d) (fin g n f (d + 1)) := by
  have h := run_beside (g := g) (f := f) (d := d) hn (enoughVisits n d + enoughVisits n (d + 1))
  rw [fin_eq hn hc hd (by omega), fin_eq hn hc (by omega) (by omega)] at h
  exact h
end
/-! ### whole rounds -/
section
variable {g : Gs} {n f : Nat} {d : Int}
/-- how many of the n fulfil A -/
def many (n : Nat) (A : Nat → Prop) [∀ i, Decidable (A i)] : Int := total n fun i => if A i then 1 else 0
theorem total_add : ∀ (n : Nat) (h h' : Nat → Int), total n (fun i => h i + h' i) = total n h + total n h'
  | 0, _, _ => rfl
  | n + 1, h, h' => by
    show total n _ + (h n + h' n) = (total n h + h n) + (total n h' + h' n)
    rw [total_add n h h']; omega
theorem total_mul : ∀ (n : Nat) (m : Int) (h : Nat → Int), total n (fun i => m * h i) = m * total n h
  | 0, m, _ => (Int.mul_zero m).symm
  | n + 1, m, h => by
    show total n _ + m * h n = m * (total n h + h n)
    rw [total_mul n m h, Int.mul_add]
theorem total_lt {n : Nat} {h h' : Nat → Int} (e : ∀ i, i < n → h i ≤ h' i) {j : Nat} (hj : j < n) (l : h j < h' j) : total n h < total n h' := by
  have h1 : total n (bump h j) ≤ total n h' := total_le fun i hi => by
    by_cases q : i = j
    · rw [q, bump_self]; omega
    · rw [bump_ne h q]; exact e i hi
  rw [total_bump n h j hj] at h1
  omega
theorem total_nonneg : ∀ {n : Nat} {h : Nat → Int}, (∀ i, i < n → 0 ≤ h i) → 0 ≤ total n h
  | 0, _, _ => Int.le_refl _
  | n + 1, h, e => by
    show 0 ≤ total n h + h n
    have h1 := total_nonneg (n := n) fun i hi => e i (by omega)
    have h2 := e n (by omega)
    omega
theorem seat_inj {a i j : Nat} (hij : i < j) (hj : j < n) (e : (a + i) % n = (a + j) % n) : False := by
  have h1 : (a + j - (a + i)) % n = 0 := Nat.sub_mod_eq_zero_of_mod_eq e.symm
  have h2 : a + j - (a + i) = j - i := by omega
  rw [h2, Nat.mod_eq_of_lt (by omega)] at h1
  omega
/-- one round in which all who want one take one -/
theorem one_round {k : Nat} (hn : 0 < n) (hc : ∀ i, i < n → wants g (run g n f d k) i → (g i).1 ≤ (run g n f d k).left - many n (wants g (run g n f d k))) :
    (∀ i, i < n → (run g n f d (k + n)).had i = (run g n f d k).had i + if wants g (run g n f d k) i then 1 else 0) ∧
    (run g n f d (k + n)).left = (run g n f d k).left - many n (wants g (run g n f d k)) := by
  have inv : ∀ j, j ≤ n → ∀ i, i < n → (((∃ j', j' < j ∧ (f + (k + j')) % n = i) → (run g n f d (k + j)).had i = (run g n f d k).had i + if wants g (run g n f d k) i then 1 else 0) ∧
      ((¬ ∃ j', j' < j ∧ (f + (k + j')) % n = i) → (run g n f d (k + j)).had i = (run g n f d k).had i)) := by
    intro j
    induction j with
    | zero => exact fun _ i _ => ⟨fun ⟨j', h, _⟩ => absurd h (Nat.not_lt_zero _), fun _ => rfl⟩
    | succ j ih =>
      intro hj i hi
      have ih := ih (by omega)
      have hs : (f + (k + j)) % n < n := Nat.mod_lt _ hn
      have fresh : ¬ ∃ j', j' < j ∧ (f + (k + j')) % n = (f + (k + j)) % n := fun ⟨j', h1, h2⟩ => seat_inj (n := n) (a := f + k) h1 (by omega) (by rw [Nat.add_assoc, Nat.add_assoc]; exact h2)
      have e0 := (ih _ hs).2 fresh
      have le1 : ∀ x, x < n → (run g n f d (k + j)).had x ≤ (run g n f d k).had x + if wants g (run g n f d k) x then 1 else 0 := fun x hx => by
        by_cases q : ∃ j', j' < j ∧ (f + (k + j')) % n = x
        · rw [(ih x hx).1 q]; exact Int.le_refl _
        · rw [(ih x hx).2 q]; split <;> omega
      have st : run g n f d (k + (j + 1)) = vis g (run g n f d (k + j)) ((f + (k + j)) % n) := rfl
      rw [st]
      by_cases w : wants g (run g n f d k) ((f + (k + j)) % n)
      · have lf : (g ((f + (k + j)) % n)).1 < (run g n f d (k + j)).left := by
          have s1 := run_sum (g := g) (f := f) (d := d) hn k
          have s2 := run_sum (g := g) (f := f) (d := d) hn (k + j)
          have h1 := total_lt (h := (run g n f d (k + j)).had) (h' := fun x => (run g n f d k).had x + if wants g (run g n f d k) x then 1 else 0) le1 hs (by rw [e0, if_pos w]; omega)
          rw [total_add] at h1
          have h2 := hc _ hs w
          have h3 : total n (fun x => if wants g (run g n f d k) x then (1 : Int) else 0) = many n (wants g (run g n f d k)) := rfl
          omega
        have w' : wants g (run g n f d (k + j)) ((f + (k + j)) % n) := ⟨lf, fun m e => by rw [e0]; exact w.2 m e⟩
        rw [vis_yes w']
        by_cases q : i = (f + (k + j)) % n
        · refine ⟨fun _ => ?_, fun h => absurd ⟨j, Nat.lt_succ_self j, q.symm⟩ h⟩
          show bump _ _ i = _
          rw [q, bump_self, e0, if_pos w]
        · refine ⟨fun ⟨j', h1, h2⟩ => ?_, fun h => ?_⟩
          · show bump _ _ i = _
            rw [bump_ne _ q]
            refine (ih i hi).1 ⟨j', ?_, h2⟩
            by_cases z : j' = j
            · rw [z] at h2; exact absurd h2.symm q
            · omega
          · show bump _ _ i = _
            rw [bump_ne _ q]
            exact (ih i hi).2 fun ⟨j', h1, h2⟩ => h ⟨j', by omega, h2⟩
      · have w' : ¬ wants g (run g n f d (k + j)) ((f + (k + j)) % n) := no_stays_run j w
        rw [vis_no w']
        refine ⟨fun ⟨j', h1, h2⟩ => ?_, fun h => ?_⟩
        · by_cases z : j' = j
          · rw [z] at h2
            rw [← h2, e0, if_neg w]; omega
          · exact (ih i hi).1 ⟨j', by omega, h2⟩
        · exact (ih i hi).2 fun ⟨j', h1, h2⟩ => h ⟨j', by omega, h2⟩
  have hh : ∀ i, i < n → (run g n f d (k + n)).had i = (run g n f d k).had i + if wants g (run g n f d k) i then 1 else 0 := fun i hi => by
    obtain ⟨j, hj, e⟩ := met (f := f) hn k i hi
    exact (inv n (Nat.le_refl _) i hi).1 ⟨j, hj, e⟩
  refine ⟨hh, ?_⟩
  have s1 := run_sum (g := g) (f := f) (d := d) hn k
  have s2 := run_sum (g := g) (f := f) (d := d) hn (k + n)
  rw [total_congr hh, total_add] at s2
  have h3 : total n (fun x => if wants g (run g n f d k) x then (1 : Int) else 0) = many n (wants g (run g n f d k)) := rfl
  omega
theorem many_congr {n : Nat} {A B : Nat → Prop} [∀ i, Decidable (A i)] [∀ i, Decidable (B i)] (h : ∀ i, i < n → (A i ↔ B i)) : many n A = many n B :=
  total_congr fun i hi => by
    by_cases a : A i
    · rw [if_pos a, if_pos ((h i hi).mp a)]
    · rw [if_neg a, if_neg fun b => a ((h i hi).mpr b)]
theorem many_nonneg {n : Nat} {A : Nat → Prop} [∀ i, Decidable (A i)] : 0 ≤ many n A := total_nonneg fun i _ => by split <;> omega
theorem many_pos {n : Nat} {A : Nat → Prop} [∀ i, Decidable (A i)] {i : Nat} (hi : i < n) (h : A i) : 1 ≤ many n A := by
  have := total_lt (n := n) (h := fun _ => 0) (h' := fun i => if A i then 1 else 0) (fun i _ => by split <;> omega) hi (by rw [if_pos h]; omega)
  rw [total_zero] at this
  exact this
/-- m rounds in which just those who want one now take one each -/
theorem skip {k : Nat} (hn : 0 < n) (m : Nat)
    (hc : ∀ i, i < n → wants g (run g n f d k) i → (g i).1 ≤ (run g n f d k).left - m * many n (wants g (run g n f d k)))
    (he : ∀ i, i < n → wants g (run g n f d k) i → ∀ e, (g i).2 = some e → (run g n f d k).had i + m ≤ e) :
    (∀ i, i < n → (run g n f d (k + m * n)).had i = (run g n f d k).had i + if wants g (run g n f d k) i then (m : Int) else 0) ∧
    (run g n f d (k + m * n)).left = (run g n f d k).left - m * many n (wants g (run g n f d k)) := by
  have go : ∀ r, r ≤ m → (∀ i, i < n → (run g n f d (k + r * n)).had i = (run g n f d k).had i + if wants g (run g n f d k) i then (r : Int) else 0) ∧
      (run g n f d (k + r * n)).left = (run g n f d k).left - r * many n (wants g (run g n f d k)) := by
    intro r
    induction r with
    | zero =>
      intro _
      refine ⟨fun i _ => ?_, ?_⟩
      · rw [Nat.zero_mul, Nat.add_zero]; split <;> simp
      · rw [Nat.zero_mul, Nat.add_zero]; simp
    | succ r ih =>
      intro hr
      obtain ⟨ih1, ih2⟩ := ih (by omega)
      have hN := many_nonneg (n := n) (A := wants g (run g n f d k))
      have same : ∀ i, i < n → (wants g (run g n f d (k + r * n)) i ↔ wants g (run g n f d k) i) := fun i hi => by
        refine ⟨fun w => Classical.byContradiction fun z => no_stays_run (r * n) z w, fun w => ?_⟩
        have h1 := hc i hi w
        have h2 := many_pos hi w
        have h3 : ((r : Int) + 1) * many n (wants g (run g n f d k)) ≤ (m : Int) * many n (wants g (run g n f d k)) := Int.mul_le_mul_of_nonneg_right (by omega) hN
        rw [Int.add_mul, Int.one_mul] at h3
        refine ⟨by rw [ih2]; omega, fun e ee => ?_⟩
        rw [ih1 i hi, if_pos w]
        have := he i hi w e ee
        omega
      have mm := many_congr (A := wants g (run g n f d (k + r * n))) (B := wants g (run g n f d k)) same
      have o := one_round (g := g) (f := f) (d := d) (k := k + r * n) hn (fun i hi w => by
        have w0 := (same i hi).mp w
        have h1 := hc i hi w0
        have h3 : ((r : Int) + 1) * many n (wants g (run g n f d k)) ≤ (m : Int) * many n (wants g (run g n f d k)) := Int.mul_le_mul_of_nonneg_right (by omega) hN
        rw [Int.add_mul, Int.one_mul] at h3
        rw [mm, ih2]
        omega)
      have ek : k + (r + 1) * n = k + r * n + n := by rw [Nat.succ_mul, Nat.add_assoc]
      rw [ek]
      refine ⟨fun i hi => ?_, ?_⟩
      · rw [o.1 i hi, ih1 i hi]
        by_cases w : wants g (run g n f d k) i
        · rw [if_pos w, if_pos w, if_pos ((same i hi).mpr w)]
          push_cast
          omega
        · rw [if_neg w, if_neg w, if_neg fun z => w ((same i hi).mp z)]; omega
      · rw [o.2, mm, ih2]
        push_cast
        rw [Int.add_mul, Int.one_mul]
        omega
  exact go m (Nat.le_refl _)
end
end D
namespace D
/-! ### the shares as lists -/
abbrev gs (t : List (Int × Option Int)) : Gs := fun i => t.getD i (0, none)
def hadL (n : Nat) (h : Nat → Int) : List Int := (List.range n).map h
theorem hadL_len (n : Nat) (h : Nat → Int) : (hadL n h).length = n := by simp [hadL]
theorem hadL_get {n : Nat} (h : Nat → Int) {i : Nat} (hi : i < n) : (hadL n h)[i]? = some (h i) := by simp [hadL, hi]
theorem hadL_congr {n : Nat} {h h' : Nat → Int} (e : ∀ i, i < n → h i = h' i) : hadL n h = hadL n h' :=
  List.map_congr_left fun i hi => e i (List.mem_range.mp hi)
theorem hadL_inj {n : Nat} {h h' : Nat → Int} (e : hadL n h = hadL n h') {i : Nat} (hi : i < n) : h i = h' i := by
  have := hadL_get h hi
  rw [e, hadL_get h' hi] at this
  exact (Option.some.inj this).symm
theorem hadL_set {n : Nat} (h : Nat → Int) {i : Nat} (hi : i < n) (v : Int) : (hadL n h).set i v = hadL n (fun j => if j = i then v else h j) := by
  apply List.ext_getElem?
  intro j
  by_cases hj : j < n
  · rw [hadL_get _ hj]
    by_cases e : j = i
    · subst e
      rw [List.getElem?_set_self (by rw [hadL_len]; exact hi), if_pos rfl]
    · rw [List.getElem?_set_ne (Ne.symm e), hadL_get _ hj, if_neg e]
  · rw [List.getElem?_eq_none (by rw [List.length_set, hadL_len]; omega), List.getElem?_eq_none (by rw [hadL_len]; omega)]
theorem hadL_bump {n : Nat} (h : Nat → Int) {i : Nat} (hi : i < n) : (hadL n h).set i (h i + 1) = hadL n (bump h i) := by
  rw [hadL_set h hi]
  refine hadL_congr fun j _ => ?_
  unfold bump
  by_cases e : j = i
  · rw [if_pos e, if_pos e, e]
  · rw [if_neg e, if_neg e]
theorem hadL_zero (n : Nat) : hadL n (fun _ => 0) = List.replicate n 0 := by
  apply List.ext_getElem?
  intro j
  by_cases hj : j < n
  · rw [hadL_get _ hj, List.getElem?_replicate, if_pos hj]
  · rw [List.getElem?_eq_none (by rw [hadL_len]; omega), List.getElem?_replicate, if_neg hj]
theorem total_hadL : ∀ (n : Nat) (h : Nat → Int), (hadL n h).sum = total n h
  | 0, _ => rfl
  | n + 1, h => by
    show ((List.range (n + 1)).map h).sum = total n h + h n
    rw [List.range_succ, List.map_append, List.sum_append, ← total_hadL n h]
    simp [hadL]
/-- the seats that want one, in order -/
def act (g : Gs) (n : Nat) (s : S) : List Nat := (List.range n).filter fun i => decide (wants g s i)
theorem mem_act {g : Gs} {n : Nat} {s : S} {i : Nat} : i ∈ act g n s ↔ i < n ∧ wants g s i := by
  unfold act
  rw [List.mem_filter, List.mem_range, decide_eq_true_eq]
theorem act_nil {g : Gs} {n : Nat} {s : S} : act g n s = [] ↔ Quiet g n s := by
  constructor
  · intro e i hi w
    have : i ∈ act g n s := mem_act.mpr ⟨hi, w⟩
    rw [e] at this
    cases this
  · intro q
    cases e : act g n s with
    | nil => rfl
    | cons a l =>
      have : a ∈ act g n s := by rw [e]; exact List.mem_cons_self
      exact absurd (mem_act.mp this).2 (q a (mem_act.mp this).1)
theorem act_nodup (g : Gs) (n : Nat) (s : S) : (act g n s).Nodup := List.nodup_range.filter _
theorem act_le (g : Gs) (n : Nat) (s : S) : (act g n s).length ≤ n := by
  have := List.length_filter_le (fun i => decide (wants g s i)) (List.range n)
  rw [List.length_range] at this
  exact this
theorem act_many (g : Gs) (n : Nat) (s : S) : ((act g n s).length : Int) = many n (wants g s) := by
  unfold act
  induction n with
  | zero => rfl
  | succ n ih =>
    rw [List.range_succ, List.filter_append, List.length_append]
    show _ = many n (wants g s) + if wants g s n then 1 else 0
    rw [← ih]
    by_cases w : wants g s n
    · simp [w]
    · simp [w]
/-- the list behind «for seat in some: had[seat] += many», after j of some -/
def hadOn (h : Nat → Int) (m : Int) (l : List Nat) : Nat → Int := fun i => if i ∈ l then h i + m else h i
theorem hadOn_nil (h : Nat → Int) (m : Int) : hadOn h m [] = h := by
  funext i
  simp [hadOn]
theorem hadOn_snoc {n : Nat} {h : Nat → Int} {m : Int} {l : List Nat} {i : Nat} (hi : i < n) (hl : i ∉ l) : (hadL n (hadOn h m l)).set i (hadOn h m l i + m) = hadL n (hadOn h m (l ++ [i])) := by
  rw [hadL_set _ hi]
  refine hadL_congr fun j _ => ?_
  unfold hadOn
  by_cases e : j = i
  · subst e
    rw [if_pos rfl, if_neg hl, if_pos (by simp)]
  · rw [if_neg e]
    by_cases z : j ∈ l
    · rw [if_pos z, if_pos (by simp [z])]
    · rw [if_neg z, if_neg (by simp [z, e])]
theorem mem_take_at {l : List Nat} (nd : l.Nodup) {j i : Nat} (h : l[j]? = some i) : i ∉ l.take j := by
  intro z
  obtain ⟨j', h1, h2⟩ := List.mem_iff_getElem.mp z
  rw [List.length_take] at h1
  obtain ⟨h3, h4⟩ := List.getElem?_eq_some_iff.mp h
  rw [List.getElem_take] at h2
  have := (List.getElem_inj nd).mp (h2.trans h4.symm)
  omega
end D
namespace D
/-! ### small tables: what great dishes bring -/
section
variable {g g' : Gs} {n f : Nat} {d : Int}
theorem had_le' {i : Nat} {m : Int} (e : (g i).2 = some m) (h0 : 0 ≤ m) (k : Nat) : (run g n f d k).had i ≤ m := by
  induction k with
  | zero => exact h0
  | succ k ih =>
    rw [run_succ]
    by_cases w : wants g (run g n f d k) ((f + k) % n)
    · rw [vis_yes w]
      show bump _ _ i ≤ m
      by_cases z : i = (f + k) % n
      · have := w.2 m (by rw [← z]; exact e)
        rw [← z] at this ⊢
        rw [bump_self]
        omega
      · rw [bump_ne _ z]
        exact ih
    · rw [vis_no w]
      exact ih
/-- courtesies of at most C, enoughs of at most E -/
def Small (g : Gs) (n C E : Nat) : Prop := ∀ i, i < n → 0 ≤ (g i).1 ∧ (g i).1 ≤ C ∧ ∀ m, (g i).2 = some m → 0 ≤ m ∧ m ≤ E
def opn (g : Gs) (i : Nat) : Prop := (g i).2 = none
instance (g : Gs) (i : Nat) : Decidable (opn g i) := inferInstanceAs (Decidable ((g i).2 = none))
/-- what i has behind r rounds of a great dish -/
def lim (g : Gs) (r i : Nat) : Int := match (g i).2 with
  | none => r
  | some m => if m ≤ r then m else r
theorem lim_le {C E : Nat} (h : Small g n C E) (r i : Nat) (hi : i < n) : 0 ≤ lim g r i ∧ lim g r i ≤ r := by
  unfold lim
  cases e : (g i).2 with
  | none => simp
  | some m =>
    have := ((h i hi).2.2 m e).1
    simp only
    split <;> omega
theorem total_const : ∀ (n : Nat) (c : Int), total n (fun _ => c) = n * c
  | 0, c => by rw [Int.natCast_zero, Int.zero_mul]; rfl
  | n + 1, c => by
    show total n _ + c = _
    rw [total_const n c, Int.natCast_add, Int.add_mul]
    omega
theorem rounds_lim {C E : Nat} (hn : 0 < n) (h : Small g n C E) (hd : (C : Int) + n * E ≤ d) (r : Nat) (hr : r ≤ E) : (∀ i, i < n → (run g n f d (r * n)).had i = lim g r i) ∧ (run g n f d (r * n)).left = d - total n (lim g r) := by
  have left : ∀ k, (∀ i, i < n → (run g n f d k).had i = lim g r i) → (run g n f d k).left = d - total n (lim g r) := fun k hh => by
    have := run_sum (g := g) (f := f) (d := d) hn k
    rw [total_congr hh] at this
    omega
  induction r with
  | zero =>
    have h0 : ∀ i, i < n → (run g n f d (0 * n)).had i = lim g 0 i := fun i hi => by
      rw [Nat.zero_mul]
      show (0 : Int) = _
      have := lim_le h 0 i hi
      omega
    exact ⟨h0, left _ h0⟩
  | succ r ih =>
    have left0 : ∀ k, (∀ i, i < n → (run g n f d k).had i = lim g r i) → (run g n f d k).left = d - total n (lim g r) := fun k hh => by
      have := run_sum (g := g) (f := f) (d := d) hn k
      rw [total_congr hh] at this
      omega
    obtain ⟨h1, h2⟩ := ih (by omega) left0
    have tl : total n (lim g r) ≤ n * (r : Int) := by
      rw [← total_const]
      exact total_le fun i hi => (lim_le h r i hi).2
    have nE : (n : Int) * (r : Int) + n ≤ n * E := by
      have : (n : Int) * ((r : Int) + 1) ≤ n * E := Int.mul_le_mul_of_nonneg_left (by omega) (by omega)
      rw [Int.mul_add, Int.mul_one] at this
      exact this
    have mN : many n (wants g (run g n f d (r * n))) ≤ n := by
      have : many n (wants g (run g n f d (r * n))) ≤ total n (fun _ => 1) := total_le fun i _ => by split <;> omega
      rw [total_const, Int.mul_one] at this
      exact this
    obtain ⟨o1, _⟩ := one_round (g := g) (f := f) (d := d) (k := r * n) hn (fun i hi _ => by
      have := (h i hi).2.1
      omega)
    have hh : ∀ i, i < n → (run g n f d ((r + 1) * n)).had i = lim g (r + 1) i := fun i hi => by
      rw [Nat.succ_mul, o1 i hi, h1 i hi]
      have hC := (h i hi).2.1
      have key : wants g (run g n f d (r * n)) i ↔ ∀ m, (g i).2 = some m → (r : Int) < m := by
        unfold wants
        rw [h1 i hi]
        refine ⟨fun w m e => ?_, fun w => ⟨by omega, fun m e => ?_⟩⟩
        · have := w.2 m e
          unfold lim at this
          rw [e] at this
          simp only at this
          split at this <;> omega
        · have := w m e
          unfold lim
          rw [e]
          simp only
          split <;> omega
      unfold lim
      cases e : (g i).2 with
      | none =>
        rw [if_pos (key.mpr fun m em => by rw [e] at em; cases em)]
        simp only
        omega
      | some m =>
        have m0 := ((h i hi).2.2 m e).1
        by_cases w : (r : Int) < m
        · rw [if_pos (key.mpr fun m' em => by rw [e] at em; cases em; exact w)]
          simp only
          rw [if_neg (by omega)]
          split <;> omega
        · rw [if_neg (fun z => w (key.mp z m e))]
          simp only
          rw [if_pos (by omega), if_pos (by omega)]
          omega
    exact ⟨hh, left _ hh⟩
/-- two runs with the same left, the open ones ahead by one -/
def Ahead (g : Gs) (n : Nat) (s s' : S) : Prop := s'.left = s.left ∧ ∀ i, i < n → s'.had i = s.had i + if opn g i then 1 else 0
theorem vis_ahead {s s' : S} (h : Ahead g n s s') {j : Nat} (hj : j < n) : Ahead g n (vis g s j) (vis g s' j) := by
  obtain ⟨h1, h2⟩ := h
  have iff : wants g s' j ↔ wants g s j := by
    unfold wants
    rw [h1, h2 j hj]
    refine and_congr Iff.rfl ⟨fun z m e => ?_, fun z m e => ?_⟩
    · have := z m e
      rw [if_neg (show ¬ opn g j by unfold opn; rw [e]; intro q; cases q)] at this
      omega
    · have := z m e
      rw [if_neg (show ¬ opn g j by unfold opn; rw [e]; intro q; cases q)]
      omega
  by_cases w : wants g s j
  · rw [vis_yes w, vis_yes (iff.mpr w)]
    refine ⟨by show _ - 1 = _ - 1; rw [h1], fun i hi => ?_⟩
    show bump _ _ i = bump _ _ i + _
    have := h2 i hi
    by_cases z : i = j
    · rw [z, bump_self, bump_self]
      rw [z] at this
      omega
    · rw [bump_ne _ z, bump_ne _ z]
      exact this
  · rw [vis_no w, vis_no fun z => w (iff.mp z)]
    exact ⟨h1, h2⟩
theorem many_opn_le (g : Gs) (n : Nat) : 0 ≤ many n (opn g) ∧ many n (opn g) ≤ n := by
  refine ⟨many_nonneg, ?_⟩
  have : many n (opn g) ≤ total n (fun _ => 1) := total_le fun i _ => by split <;> omega
  rw [total_const, Int.mul_one] at this
  exact this
/-- as many pieces more as there are open ones: each of them has one more -/
theorem period {C E : Nat} (hn : 0 < n) (h : Small g n C E) (hd : (C : Int) + n * E ≤ d) (i : Nat) (hi : i < n) :
    (fin g n f (d + many n (opn g))).had i = (fin g n f d).had i + if opn g i then 1 else 0 := by
  obtain ⟨k0, kn⟩ := many_opn_le g n
  have d0 : 0 ≤ d := by
    have : (0 : Int) ≤ (n : Int) * E := Int.mul_nonneg (by omega) (by omega)
    omega
  have hc : ∀ i, i < n → 0 ≤ (g i).1 := fun i hi => (h i hi).1
  obtain ⟨a1, a2⟩ := rounds_lim (f := f) hn h hd E (Nat.le_refl _)
  obtain ⟨b1, b2⟩ := rounds_lim (f := f) hn h (show (C : Int) + n * E ≤ d + many n (opn g) by omega) E (Nat.le_refl _)
  have tl : total n (lim g E) ≤ n * (E : Int) := by
    rw [← total_const]
    exact total_le fun i hi => (lim_le h E i hi).2
  -- who wants one behind E rounds: the open ones
  have key : ∀ i, i < n → opn g i → 1 ≤ many n (opn g) := fun i hi o => many_pos hi o
  have wb : ∀ i, i < n → (wants g (run g n f (d + many n (opn g)) (E * n)) i ↔ opn g i) := fun i hi => by
    unfold wants
    rw [b1 i hi, b2]
    refine ⟨fun z => ?_, fun o => ⟨?_, fun m e => ?_⟩⟩
    · cases e : (g i).2 with
      | none => exact e
      | some m =>
        have := z.2 m e
        unfold lim at this
        rw [e] at this
        simp only at this
        have hm := ((h i hi).2.2 m e).2
        rw [if_pos (by omega)] at this
        omega
    · have h1 := (h i hi).2.1
      have h2 := key i hi o
      omega
    · unfold opn at o
      rw [o] at e
      cases e
  have mm := many_congr (A := wants g (run g n f (d + many n (opn g)) (E * n))) (B := opn g) wb
  obtain ⟨o1, o2⟩ := one_round (g := g) (f := f) (d := d + many n (opn g)) (k := E * n) hn (fun i hi w => by
    rw [mm, b2]
    have := (h i hi).2.1
    omega)
  have start : Ahead g n (run g n f d (E * n)) (run g n f (d + many n (opn g)) (E * n + n)) := by
    refine ⟨by rw [o2, mm, b2, a2]; omega, fun i hi => ?_⟩
    rw [o1 i hi, b1 i hi, a1 i hi]
    by_cases o : opn g i
    · rw [if_pos o, if_pos ((wb i hi).mpr o)]
    · rw [if_neg o, if_neg fun z => o ((wb i hi).mp z)]
  have go : ∀ j, Ahead g n (run g n f d (E * n + j)) (run g n f (d + many n (opn g)) (E * n + n + j)) := fun j => by
    induction j with
    | zero => exact start
    | succ j ih =>
      have e1 : (f + (E * n + n + j)) % n = (f + (E * n + j)) % n := by
        rw [show f + (E * n + n + j) = f + (E * n + j) + n by omega, Nat.add_mod_right]
      rw [← Nat.add_assoc, ← Nat.add_assoc, run_succ, run_succ, e1]
      exact vis_ahead ih (Nat.mod_lt _ hn)
  have z := go (enoughVisits n d + enoughVisits n (d + many n (opn g)))
  rw [fin_eq hn hc d0 (by omega), fin_eq hn hc (by omega) (by omega)] at z
  exact z.2 i hi
/-- one who has an enough has it -/
theorem full {C E : Nat} (hn : 0 < n) (h : Small g n C E) (hd : (C : Int) + n * E ≤ d) (i : Nat) (hi : i < n) {m : Int} (e : (g i).2 = some m) : (fin g n f d).had i = m := by
  have hm := (h i hi).2.2 m e
  have d0 : 0 ≤ d := by
    have : (0 : Int) ≤ (n : Int) * E := Int.mul_nonneg (by omega) (by omega)
    omega
  obtain ⟨a1, _⟩ := rounds_lim (f := f) hn h hd E (Nat.le_refl _)
  have l1 : lim g E i = m := by
    unfold lim
    rw [e]
    simp only
    rw [if_pos hm.2]
  have l2 := run_had_le (g := g) (n := n) (f := f) (d := d) (E * n) (enoughVisits n d) i
  rw [fin_eq hn (fun i hi => (h i hi).1) d0 (show enoughVisits n d ≤ E * n + enoughVisits n d by omega), a1 i hi, l1] at l2
  have l3 := had_le' (n := n) (f := f) (d := d) e hm.1 (enoughVisits n d)
  have l4 : (fin g n f d).had i ≤ m := l3
  omega
theorem fin_mono (hn : 0 < n) (hc : ∀ i, i < n → 0 ≤ (g i).1) (hd : 0 ≤ d) (k : Nat) (i : Nat) : (fin g n f d).had i ≤ (fin g n f (d + k)).had i := by
  induction k with
  | zero => rw [Int.natCast_zero, Int.add_zero]; exact Int.le_refl _
  | succ k ih =>
    have b := fin_beside (g := g) (n := n) (f := f) (d := d + k) hn hc (by omega)
    rw [show d + ((k + 1 : Nat) : Int) = d + k + 1 by omega]
    rcases b with ⟨_, h2⟩ | ⟨j, _, _, h2, _⟩
    · rw [h2]; exact ih
    · rw [h2]
      unfold bump
      split <;> omega
theorem opn_iff {C E : Nat} (hn : 0 < n) (h : Small g n C E) (i : Nat) (hi : i < n) : opn g i ↔ (fin g n f ((C : Int) + n * E)).had i < (fin g n f ((C : Int) + n * E + n)).had i := by
  have nn : (0 : Int) ≤ (n : Int) * E := Int.mul_nonneg (by omega) (by omega)
  constructor
  · intro o
    have p := period (f := f) hn h (Int.le_refl _) i hi
    rw [if_pos o] at p
    obtain ⟨k0, kn⟩ := many_opn_le g n
    have m := fin_mono (g := g) (f := f) (d := (C : Int) + n * E + many n (opn g)) hn (fun i hi => (h i hi).1) (by omega) (n - (many n (opn g)).toNat) i
    rw [show (C : Int) + n * E + many n (opn g) + ((n - (many n (opn g)).toNat : Nat) : Int) = (C : Int) + n * E + n by omega] at m
    omega
  · intro lt
    cases e : (g i).2 with
    | none => exact e
    | some m =>
      rw [full hn h (Int.le_refl _) i hi e, full hn h (show (C : Int) + n * E ≤ (C : Int) + n * E + n by omega) i hi e] at lt
      omega
/-- who agree at the small dishes agree at all -/
theorem agree {C E : Nat} (hn : 0 < n) (h : Small g n C E) (h' : Small g' n C E) (hh : ∀ d : Nat, (d : Int) ≤ (C : Int) + n * E + n → ∀ i, i < n → (fin g n f d).had i = (fin g' n f d).had i) (d : Nat) : ∀ i, i < n → (fin g n f d).had i = (fin g' n f d).had i := by
  have nn : (0 : Int) ≤ (n : Int) * E := Int.mul_nonneg (by omega) (by omega)
  have cast1 : ((C + n * E : Nat) : Int) = (C : Int) + n * E := by push_cast; rfl
  have cast2 : ((C + n * E + n : Nat) : Int) = (C : Int) + n * E + n := by push_cast; rfl
  have oo : ∀ i, i < n → (opn g i ↔ opn g' i) := fun i hi => by
    rw [opn_iff (f := f) hn h i hi, opn_iff (f := f) hn h' i hi]
    have e1 := hh (C + n * E) (by rw [cast1]; omega) i hi
    have e2 := hh (C + n * E + n) (by rw [cast2]; omega) i hi
    rw [cast1] at e1
    rw [cast2] at e2
    rw [e1, e2]
  have mm : many n (opn g) = many n (opn g') := many_congr oo
  induction d using Nat.strongRecOn with
  | _ d ih =>
    intro i hi
    by_cases c : (d : Int) ≤ (C : Int) + n * E + n
    · exact hh d c i hi
    · obtain ⟨k0, kn⟩ := many_opn_le g n
      by_cases z : many n (opn g) = 0
      · have no : ¬ opn g i := fun o => by have := many_pos hi o; omega
        have no' : ¬ opn g' i := fun o => no ((oo i hi).mpr o)
        cases e : (g i).2 with
        | none => exact absurd e no
        | some m =>
          cases e' : (g' i).2 with
          | none => exact absurd e' no'
          | some m' =>
            have e1 := hh (C + n * E) (by rw [cast1]; omega) i hi
            rw [cast1, full hn h (Int.le_refl _) i hi e, full hn h' (Int.le_refl _) i hi e'] at e1
            rw [full hn h (by omega) i hi e, full hn h' (by omega) i hi e']
            exact e1
      · obtain ⟨k, hk⟩ : ∃ k : Nat, many n (opn g) = (k : Int) := ⟨(many n (opn g)).toNat, by omega⟩
        have p := period (f := f) (d := ((d - k : Nat) : Int)) hn h (by omega) i hi
        have p' := period (f := f) (d := ((d - k : Nat) : Int)) hn h' (by omega) i hi
        rw [← mm] at p'
        rw [hk, show ((d - k : Nat) : Int) + (k : Int) = (d : Int) by omega] at p p'
        rw [p, p', ih (d - k) (by omega) i hi]
        by_cases o : opn g i
        · rw [if_pos o, if_pos ((oo i hi).mp o)]
        · rw [if_neg o, if_neg fun y => o ((oo i hi).mpr y)]
end
end D
namespace D
/-! ### one guest asks for a little less -/
section
variable {g g' : Gs} {n p : Nat}
/-- the others are the same -/
def Others (g g' : Gs) (p : Nat) : Prop := ∀ i, i ≠ p → g i = g' i
theorem wants_other (o : Others g g' p) {s : S} {i : Nat} (h : i ≠ p) : wants g s i ↔ wants g' s i := by
  unfold wants
  rw [o i h]
/-- the run of g (s) beside that of g' (s'): p has one more in s, if they differ -/
inductive Moved (g g' : Gs) (n p : Nat) (s s' : S) : Prop
  | same (h1 : s.left = s'.left) (h2 : s.had = s'.had)
  | off (h1 : s'.left = s.left + 1) (h2 : s.had = bump s'.had p) (h3 : ¬ wants g s p) (h4 : ¬ wants g' s' p)
  | gave (i : Nat) (hi : i < n) (ip : i ≠ p) (h1 : s'.left = s.left) (h2 : bump s.had i = bump s'.had p) (h3 : ¬ wants g s p) (h4 : ¬ wants g' s' p) (h5 : ¬ wants g s i) (h6 : ¬ wants g' s' i)
theorem bump_comm (h : Nat → Int) (i j : Nat) : bump (bump h i) j = bump (bump h j) i := by
  funext x
  unfold bump
  split <;> split <;> simp
theorem bump_inj {h h' : Nat → Int} {i : Nat} (e : bump h i = bump h' i) : h = h' := by
  funext x
  have := congrFun e x
  unfold bump at this
  split at this <;> omega
theorem vis_moved (o : Others g g' p) (hw : ∀ s : S, wants g' s p → wants g s p) (hd : ∀ s : S, wants g s p → ¬ wants g' s p → ¬ wants g ⟨s.left - 1, bump s.had p⟩ p)
    {s s' : S} (h : Moved g g' n p s s') (j : Nat) (hj : j < n) : Moved g g' n p (vis g s j) (vis g' s' j) := by
  rcases h with ⟨h1, h2⟩ | ⟨h1, h2, h3, h4⟩ | ⟨i, hi, ip, h1, h2, h3, h4, h5, h6⟩
  · have es : s = s' := by
      cases s; cases s'; simp only at h1 h2; rw [h1, h2]
    subst es
    by_cases e : j = p
    · subst e
      by_cases w : wants g s j
      · by_cases w' : wants g' s j
        · rw [vis_yes w, vis_yes w']
          exact .same rfl rfl
        · rw [vis_yes w, vis_no w']
          exact .off (by simp) rfl (hd s w w') w'
      · have w' : ¬ wants g' s j := fun z => w (hw s z)
        rw [vis_no w, vis_no w']
        exact .same rfl rfl
    · have iff := wants_other (s := s) o e
      by_cases w : wants g s j
      · rw [vis_yes w, vis_yes (iff.mp w)]
        exact .same rfl rfl
      · rw [vis_no w, vis_no fun z => w (iff.mpr z)]
        exact .same rfl rfl
  · by_cases e : j = p
    · subst e
      rw [vis_no h3, vis_no h4]
      exact .off h1 h2 h3 h4
    · have ej : s.had j = s'.had j := by rw [h2, bump_ne _ e]
      have og := o j e
      by_cases w : wants g s j
      · have w' : wants g' s' j := ⟨by rw [← og]; have := w.1; omega, fun m em => by rw [← ej]; exact w.2 m (by rw [og]; exact em)⟩
        rw [vis_yes w, vis_yes w']
        refine .off (by show s'.left - 1 = s.left - 1 + 1; omega) (by show bump s.had j = bump (bump s'.had j) p; rw [h2, bump_comm]) ?_ ?_
        · have := no_stays (g := g) j h3
          rw [vis_yes w] at this
          exact this
        · have := no_stays (g := g') j h4
          rw [vis_yes w'] at this
          exact this
      · rw [vis_no w]
        by_cases w' : wants g' s' j
        · rw [vis_yes w']
          refine .gave j hj e (by show s'.left - 1 = s.left; omega) (by show bump s.had j = bump (bump s'.had j) p; rw [h2, bump_comm]) h3 ?_ w ?_
          · have := no_stays (g := g') j h4
            rw [vis_yes w'] at this
            exact this
          · intro z
            apply w
            have z1 : (g' j).1 < s'.left - 1 := z.1
            exact ⟨by rw [og]; omega, fun m em => by rw [ej]; exact w'.2 m (by rw [← og]; exact em)⟩
        · rw [vis_no w']
          exact .off h1 h2 h3 h4
  · by_cases e : j = p
    · subst e
      rw [vis_no h3, vis_no h4]
      exact .gave i hi ip h1 h2 h3 h4 h5 h6
    · by_cases e2 : j = i
      · subst e2
        rw [vis_no h5, vis_no h6]
        exact .gave j hi ip h1 h2 h3 h4 h5 h6
      · have ej : s.had j = s'.had j := by
          have := congrFun h2 j
          rw [bump_ne _ e2, bump_ne _ e] at this
          exact this
        have og := o j e
        by_cases w : wants g s j
        · have w' : wants g' s' j := ⟨by rw [← og]; have := w.1; omega, fun m em => by rw [← ej]; exact w.2 m (by rw [og]; exact em)⟩
          have n3 := no_stays (g := g) j h3
          have n4 := no_stays (g := g') j h4
          have n5 := no_stays (g := g) j h5
          have n6 := no_stays (g := g') j h6
          rw [vis_yes w] at n3 n5 ⊢
          rw [vis_yes w'] at n4 n6 ⊢
          exact .gave i hi ip (by show s'.left - 1 = s.left - 1; omega) (by show bump (bump s.had j) i = bump (bump s'.had j) p; rw [bump_comm, h2, bump_comm]) n3 n4 n5 n6
        · have w' : ¬ wants g' s' j := fun z => w ⟨by rw [og]; have := z.1; omega, fun m em => by rw [ej]; exact z.2 m (by rw [← og]; exact em)⟩
          rw [vis_no w, vis_no w']
          exact .gave i hi ip h1 h2 h3 h4 h5 h6
theorem fin_moved {f : Nat} {d : Int} (hn : 0 < n) (o : Others g g' p) (hw : ∀ s : S, wants g' s p → wants g s p) (hd : ∀ s : S, wants g s p → ¬ wants g' s p → ¬ wants g ⟨s.left - 1, bump s.had p⟩ p) :
    Moved g g' n p (fin g n f d) (fin g' n f d) := by
  have go : ∀ k, Moved g g' n p (run g n f d k) (run g' n f d k) := fun k => by
    induction k with
    | zero => exact .same rfl rfl
    | succ k ih => exact vis_moved o hw hd ih _ (Nat.mod_lt _ hn)
  exact go (enoughVisits n d)
/-- a courtesy one greater -/
theorem courtesy_moved {c : Int} {e : Option Int} (h : g p = (c, e)) (h' : g' p = (c + 1, e)) : (∀ s : S, wants g' s p → wants g s p) ∧ ∀ s : S, wants g s p → ¬ wants g' s p → ¬ wants g ⟨s.left - 1, bump s.had p⟩ p := by
  unfold wants
  rw [h, h']
  refine ⟨fun s w => ⟨by have := w.1; simp only at this ⊢; omega, w.2⟩, fun s w n z => n ⟨?_, w.2⟩⟩
  have := z.1
  simp only at this ⊢
  omega
/-- an enough one greater -/
theorem enough_moved {c m : Int} (h : g p = (c, some (m + 1))) (h' : g' p = (c, some m)) : (∀ s : S, wants g' s p → wants g s p) ∧ ∀ s : S, wants g s p → ¬ wants g' s p → ¬ wants g ⟨s.left - 1, bump s.had p⟩ p := by
  unfold wants
  rw [h, h']
  refine ⟨fun s w => ⟨w.1, fun m' e => ?_⟩, fun s w n z => n ⟨w.1, fun m' e => ?_⟩⟩
  · cases e
    have := w.2 m rfl
    omega
  · cases e
    have := z.2 (m + 1) rfl
    simp only [bump_self] at this
    omega
end
end D
namespace Lp
open PySem PySem.Spec PyProof.Rows L2
/-! ### callable names -/
/-- the module's name x may be called, with the promise sp, at level k -/
structure Cal (P : Program) (w : World) (K : PySem.W.Frag) (mg : Str → Option Value) (base : Heap) (k : Nat) (x : Str) (sp : Sp) : Prop where
  ex : ∃ (f : Addr) (fd : FuncData) (ps : List Str), FnOk P w K mg base L2.CX0 k f fd ps sp ∧ mg x = some (.ref f) ∧ PySem.W.keepIn K (.ref f) = true ∧ Binds K fd ps []
section
variable {X : Cx} {k j : Nat} {x : Str} {sp : Sp} {p pos : Pos} {e : Expr} {es : List Expr} {t : TA}
theorem pe_g (c : Cal X.prog X.w X.K X.mg X.base k x sp) (hr : Room j X.A) (ha : PA X (e :: es) t) (hk : k ≤ j := by decide) (hg : Gl X x := by rfl)
    (hdb : (x == ("__debug__" : Str)) = false := by decide) (he : starEach (e :: es) X.env = (false, eval e X.env) :: starEach es X.env := by rfl) (hpl : (backTo pos (starEach es X.env)).any (·.1) = false := by rfl) :
    PE X (.Call (.Name x p) (e :: es) [] pos) (tCall sp [] L2.E0 t) := by
  obtain ⟨f, fd, ps, F, hm, kp, b⟩ := c.ex
  exact pe_call F (hr.mono hk) hg hm kp b .nil L2.pass0 ha hdb he hpl
end
/-- the method m of the class at C -/
structure Met (P : Program) (w : World) (K : PySem.W.Frag) (mg : Str → Option Value) (base : Heap) (k : Nat) (C : Addr) (m : Str) (sp : Sp) : Prop where
  ex : ∃ (f : Addr) (fd : FuncData) (ps : List Str), Cls K C ∧ Meth K C m f ∧ FnOk P w K mg base L2.CX0 k f fd ps sp ∧ Binds K fd ps []
/-- the class x at C may be made; sp: its __init__ -/
structure Mak (P : Program) (w : World) (K : PySem.W.Frag) (mg : Str → Option Value) (base : Heap) (k : Nat) (x : Str) (C : Addr) (sp : Sp) : Prop where
  ex : ∃ (f : Addr) (fd : FuncData) (ps : List Str), Mk K C f ∧ FnOk P w K mg base L2.CX0 k f fd ps sp ∧ mg x = some (.ref C) ∧ Binds K fd ps []
section
variable {X : Cx} {k j : Nat} {C : Addr} {x m : Str} {sp : Sp} {p pos apos : Pos} {e o : Expr} {es : List Expr} {ta : TE} {t : TA}
theorem pe_new (c : Mak X.prog X.w X.K X.mg X.base k x C sp) (hr : Room j X.A) (ha : PA X (e :: es) t) (hk : k + 1 ≤ j := by decide) (hg : Gl X x := by rfl)
    (hdb : (x == ("__debug__" : Str)) = false := by decide) (he : starEach (e :: es) X.env = (false, eval e X.env) :: starEach es X.env := by rfl) (hpl : (backTo pos (starEach es X.env)).any (·.1) = false := by rfl) :
    PE X (.Call (.Name x p) (e :: es) [] pos) (tMake C sp [] L2.E0 t) := by
  obtain ⟨f, fd, ps, M, F, hm, b⟩ := c.ex
  exact pe_make M F (hr.mono hk) hg hm b .nil L2.pass0 ha hdb he hpl
theorem pe_me {pl : Sem Bool} (c : Met X.prog X.w X.K X.mg X.base k C m sp) (hr : Room j X.A) (he : PE X o ta) (ha : PA X (e :: es) t) (hk : k ≤ j := by decide)
    (hst : starEach (e :: es) X.env = (false, eval e X.env) :: starEach es X.env := by rfl) (hpl : (backTo pos (starEach es X.env)).any (·.1) = false := by rfl)
    (ht : eval (.Call (.Attribute o m apos) (e :: es) [] pos) X.env = (eval o X.env >>= fun ov => standAt apos.atName >>= fun _ => holding [ov] (getMethod ov m pl) >>= fun q =>
      callWith pos q.1 q.2 (backTo pos (starEach (e :: es) X.env)) (backToKw pos (keywordEach [] X.env))) := by rfl) :
    PE X (.Call (.Attribute o m apos) (e :: es) [] pos) (tMeth C m sp [] L2.E0 ta t) := by
  obtain ⟨f, fd, ps, hc, hm, F, b⟩ := c.ex
  exact pe_meth (pl := pl) he hc hm F (hr.mono hk) b .nil L2.pass0 ha hst hpl ht
theorem pe_me0 {pl : Sem Bool} (c : Met X.prog X.w X.K X.mg X.base k C m sp) (hr : Room j X.A) (he : PE X o ta) (hk : k ≤ j := by decide)
    (ht : eval (.Call (.Attribute o m apos) [] [] pos) X.env = (eval o X.env >>= fun ov => standAt apos.atName >>= fun _ => holding [ov] (getMethod ov m pl) >>= fun q =>
      callWith pos q.1 q.2 (backTo pos (starEach [] X.env)) (backToKw pos (keywordEach [] X.env))) := by rfl) :
    PE X (.Call (.Attribute o m apos) [] [] pos) (tMeth C m sp [] L2.E0 ta tNil) := by
  obtain ⟨f, fd, ps, hc, hm, F, b⟩ := c.ex
  exact pe_meth0 (pl := pl) he hc hm F (hr.mono hk) b .nil L2.pass0 ht
end
/-- the module's name x, a def of n parameters and the keyword-only one «first», which is 0 where it lacks -/
structure CalK (P : Program) (w : World) (K : PySem.W.Frag) (mg : Str → Option Value) (base : Heap) (k n : Nat) (x : Str) (sp : Sp) : Prop where
  ex : ∃ (f : Addr) (fd : FuncData) (ps : List Str), FnOk P w K mg base L2.CX0 k f fd ps sp ∧ mg x = some (.ref f) ∧ PySem.W.keepIn K (.ref f) = true ∧
    (∃ ds, Vals [.int 0] ds ∧ Binds K fd ps ds) ∧ KBn K fd ps n (["first"] : List Str) (fun us ws => us ++ ws) (fun vs zs => vs ++ zs)
section
variable {X : Cx} {k j n : Nat} {x : Str} {sp : Sp} {p pos : Pos} {e : Expr} {es : List Expr} {kws : List Keyword} {t tk : TA}
/-- without the keyword -/
theorem pe_gd (c : CalK X.prog X.w X.K X.mg X.base k n x sp) (hr : Room j X.A) (ha : PA X (e :: es) t) (hk : k ≤ j := by decide) (hg : Gl X x := by rfl)
    (hdb : (x == ("__debug__" : Str)) = false := by decide) (he : starEach (e :: es) X.env = (false, eval e X.env) :: starEach es X.env := by rfl) (hpl : (backTo pos (starEach es X.env)).any (·.1) = false := by rfl) :
    PE X (.Call (.Name x p) (e :: es) [] pos) (tCall sp [.int 0] L2.E0 t) := by
  obtain ⟨f, fd, ps, F, hm, kp, ⟨ds, vd, b⟩, _⟩ := c.ex
  exact pe_call F (hr.mono hk) hg hm kp b vd L2.pass0 ha hdb he hpl
/-- with it -/
theorem pe_gk (c : CalK X.prog X.w X.K X.mg X.base k n x sp) (hr : Room j X.A) (ha : PA X (e :: es) t) (hkw : PK X kws tk) (hk : k ≤ j := by decide) (hg : Gl X x := by rfl)
    (hall : (backToKw pos (keywordEach kws X.env)).all (·.1.isSome) = true := by rfl) (hks : (backToKw pos (keywordEach kws X.env)).filterMap (·.1) = (["first"] : List Str) := by rfl)
    (hdb : (x == ("__debug__" : Str)) = false := by decide) (he : starEach (e :: es) X.env = (false, eval e X.env) :: starEach es X.env := by rfl)
    (hpl : ((backTo pos (starEach (e :: es) X.env)).any (·.1) || (backToKw pos (keywordEach kws X.env)).any (·.1.isNone)) = false := by rfl) :
    PE X (.Call (.Name x p) (e :: es) kws pos) (tCallN n 1 sp (fun vs zs => vs ++ zs) L2.E0 t tk) := by
  obtain ⟨f, fd, ps, F, hm, kp, _, kb⟩ := c.ex
  exact pe_callN F (hr.mono hk) hg hm kp kb L2.pass0 ha hkw hall hks hdb he hpl
end
/-! ### what the top has written -/
/-- a def without defaults under its name -/
structure DefIn (K : PySem.W.Frag) (mg : Str → Option Value) (x : Str) (st : Stmt) : Prop where
  ex : ∃ (f : Addr) (fd : FuncData), L2.Fun K x x st f fd ∧ mg x = some (.ref f)
/-- a def whose one keyword-only parameter has a default -/
structure DefKw (K : PySem.W.Frag) (mg : Str → Option Value) (x : Str) (st : Stmt) : Prop where
  ex : ∃ (f : Addr) (fd : FuncData), FunD K x x (defArgs st) (defBody st) (defScope st) [] [("first", .int 0)] f fd ∧ mg x = some (.ref f)
/-- a method of the class at C -/
structure MethIn (K : PySem.W.Frag) (C : Addr) (m qual : Str) (st : Stmt) : Prop where
  ex : ∃ (f : Addr) (fd : FuncData), L2.Fun K m qual st f fd ∧ Meth K C m f
theorem defIn_mk {K : PySem.W.Frag} {h : Heap} {mg : Str → Option Value} {x : Str} {st : Stmt} {f : Addr} {oc : Value} {od an : Option Addr} {osl : Array (Option Value)} {kV doc pm cdv ct : Value} (X : K.In h) (G : h.Ns mainGlobals mg)
    (a : PySem.W.nsIn K mainGlobals x = some (some (.ref f)))
    (l : K.lookup f = some ⟨oc, od, .func (PySem.W.fnOf x x (defArgs st) (defBody st) (defScope st) .none kV doc pm an cdv ct), osl⟩)
    (c : PySem.W.codeIn K cdv x = true) (k : PySem.W.keepIn K (.ref f) = true) : DefIn K mg x st :=
  ⟨f, _, fun_mk l c k, PySem.W.mg_of X G a⟩
theorem defKw_mk {K : PySem.W.Frag} {h : Heap} {mg : Str → Option Value} {x : Str} {st : Stmt} {f D : Addr} {oc : Value} {od an : Option Addr} {osl : Array (Option Value)} {doc pm cdv ct u : Value} (X : K.In h) (G : h.Ns mainGlobals mg)
    (a : PySem.W.nsIn K mainGlobals x = some (some (.ref f)))
    (l : K.lookup f = some ⟨oc, od, .func (PySem.W.fnOf x x (defArgs st) (defBody st) (defScope st) .none (.ref D) doc pm an cdv ct), osl⟩)
    (d : PySem.W.nsIn K D "first" = some (some u)) (r : RelV (.int 0) u)
    (c : PySem.W.codeIn K cdv x = true) (k : PySem.W.keepIn K (.ref f) = true) : DefKw K mg x st :=
  ⟨f, _, ⟨⟨oc, od, _, _, doc, pm, an, cdv, ct, osl, rfl, l, c, .inl ⟨rfl, rfl⟩, .inr ⟨D, rfl, fun q hq => by
    rcases List.mem_cons.mp hq with e | hq
    · rw [e]; exact ⟨_, d, r⟩
    · cases hq⟩⟩, k⟩, PySem.W.mg_of X G a⟩
theorem methIn_mk {K : PySem.W.Frag} {C : Addr} {m qual : Str} {st : Stmt} {f : Addr} {oc : Value} {od an : Option Addr} {osl : Array (Option Value)} {kV doc pm cdv ct : Value}
    (a : PySem.W.findIn K (.ref C) m = some (some (.ref f)))
    (l : K.lookup f = some ⟨oc, od, .func (PySem.W.fnOf m qual (defArgs st) (defBody st) (defScope st) .none kV doc pm an cdv ct), osl⟩)
    (i : PySem.W.isFn K (.ref f) = true) (c : PySem.W.codeIn K cdv qual = true) (k : PySem.W.keepIn K (.ref f) = true) : MethIn K C m qual st :=
  ⟨f, _, fun_mk l c k, ⟨a, i, k⟩⟩
/-- the built-in names are the built-in ones -/
structure Bls (mg : Str → Option Value) : Prop where
  isinstance : mg "isinstance" = none
  int : mg "int" = none
  bool : mg "bool" = none
  tuple : mg "tuple" = none
  list : mg "list" = none
  len : mg "len" = none
  all : mg "all" = none
  any : mg "any" = none
  max : mg "max" = none
  min : mg "min" = none
  sum : mg "sum" = none
  range : mg "range" = none
  enumerate : mg "enumerate" = none
  zip : mg "zip" = none
  sorted : mg "sorted" = none
  repr : mg "repr" = none
/-! ### data -/
def tyD : PyData → String
  | .none => "NoneType"
  | .bool _ => "bool"
  | .int _ => "int"
  | .str _ => "str"
  | .list _ => "list"
  | .tuple _ => "tuple"
  | .dict _ => "dict"
theorem tyx {K : PySem.W.Frag} {H : Hp} {v : V} {d : PyData} (h : Dp K H v d) : TyX K H v (.type (tyD d)) := by
  cases h with
  | non => exact .base .non
  | bl b => exact .base (.bl b)
  | int i => exact .base (.int i)
  | str x => exact .base (.str x)
  | lst hs _ =>
    rcases hs with (h | ⟨o, h⟩) | ⟨o, its, n, h, c, _⟩
    · exact .base (.lst h)
    · exact .base (.frz h)
    · exact .kList h c
  | tup hs _ =>
    rcases hs with (h | ⟨o, h⟩) | ⟨o, its, n, h, c, _⟩
    · exact .base (.tup h)
    · exact .fTuple h
    · exact .kTuple h c
/-- isinstance(x, T) of data, T a built-in type -/
def isIntD : PyData → Bool
  | .int _ => true
  | .bool _ => true
  | _ => false
def isBoolD : PyData → Bool
  | .bool _ => true
  | _ => false
def isTupD : PyData → Bool
  | .tuple _ => true
  | _ => false
def isLstD : PyData → Bool
  | .list _ => true
  | _ => false
theorem kit_i (K : PySem.W.Frag) (d : PyData) : PySem.W.kitOne K (.type (tyD d)) (.type "int") = some (isIntD d) := by
  cases d with
  | none => exact kit_ty (show kitB "NoneType" "int" = some false by decide +kernel)
  | bool _ => exact kit_ty (show kitB "bool" "int" = some true by decide +kernel)
  | int _ => exact kit_ty (show kitB "int" "int" = some true by decide +kernel)
  | str _ => exact kit_ty (show kitB "str" "int" = some false by decide +kernel)
  | list _ => exact kit_ty (show kitB "list" "int" = some false by decide +kernel)
  | tuple _ => exact kit_ty (show kitB "tuple" "int" = some false by decide +kernel)
  | dict _ => exact kit_ty (show kitB "dict" "int" = some false by decide +kernel)
theorem kit_b (K : PySem.W.Frag) (d : PyData) : PySem.W.kitOne K (.type (tyD d)) (.type "bool") = some (isBoolD d) := by
  cases d with
  | none => exact kit_ty (show kitB "NoneType" "bool" = some false by decide +kernel)
  | bool _ => exact kit_ty (show kitB "bool" "bool" = some true by decide +kernel)
  | int _ => exact kit_ty (show kitB "int" "bool" = some false by decide +kernel)
  | str _ => exact kit_ty (show kitB "str" "bool" = some false by decide +kernel)
  | list _ => exact kit_ty (show kitB "list" "bool" = some false by decide +kernel)
  | tuple _ => exact kit_ty (show kitB "tuple" "bool" = some false by decide +kernel)
  | dict _ => exact kit_ty (show kitB "dict" "bool" = some false by decide +kernel)
theorem kit_t (K : PySem.W.Frag) (d : PyData) : PySem.W.kitOne K (.type (tyD d)) (.type "tuple") = some (isTupD d) := by
  cases d with
  | none => exact kit_ty (show kitB "NoneType" "tuple" = some false by decide +kernel)
  | bool _ => exact kit_ty (show kitB "bool" "tuple" = some false by decide +kernel)
  | int _ => exact kit_ty (show kitB "int" "tuple" = some false by decide +kernel)
  | str _ => exact kit_ty (show kitB "str" "tuple" = some false by decide +kernel)
  | list _ => exact kit_ty (show kitB "list" "tuple" = some false by decide +kernel)
  | tuple _ => exact kit_ty (show kitB "tuple" "tuple" = some true by decide +kernel)
  | dict _ => exact kit_ty (show kitB "dict" "tuple" = some false by decide +kernel)
theorem kit_l (K : PySem.W.Frag) (d : PyData) : PySem.W.kitOne K (.type (tyD d)) (.type "list") = some (isLstD d) := by
  cases d with
  | none => exact kit_ty (show kitB "NoneType" "list" = some false by decide +kernel)
  | bool _ => exact kit_ty (show kitB "bool" "list" = some false by decide +kernel)
  | int _ => exact kit_ty (show kitB "int" "list" = some false by decide +kernel)
  | str _ => exact kit_ty (show kitB "str" "list" = some false by decide +kernel)
  | list _ => exact kit_ty (show kitB "list" "list" = some true by decide +kernel)
  | tuple _ => exact kit_ty (show kitB "tuple" "list" = some false by decide +kernel)
  | dict _ => exact kit_ty (show kitB "dict" "list" = some false by decide +kernel)
section
variable {X : Cx} {a b : Expr} {ta tb : TE} {p pos : Pos}
/-- isinstance(a, b) -/
theorem pe_isi (B : Bls X.mg) (ha : PE X a ta) (hb : PE X b tb) (hg : Gl X "isinstance" := by rfl) (he : starEach [a, b] X.env = (false, eval a X.env) :: starEach [b] X.env := by rfl) (h2 : starEach [b] X.env = (false, eval b X.env) :: starEach [] X.env := by rfl)
    (hpl : (backTo pos (starEach [b] X.env)).any (·.1) = false := by rfl) : PE X (.Call (.Name "isinstance" p) [a, b] [] pos) (tCB (rIsi X.K) (tCons ta (tCons tb tNil))) :=
  pe_callB call_isi hg B.isinstance (by decide +kernel) (pa_cons ha (pa_cons hb pa_nil h2) he) (by decide) (by decide) he hpl
/-- the name of a built-in type as a value -/
theorem pe_tInt (B : Bls X.mg) (hg : Gl X "int" := by rfl) : PE X (.Name "int" pos) (tC (.ty "int")) := pe_bltn hg B.int (by decide +kernel) rfl
theorem pe_tBool (B : Bls X.mg) (hg : Gl X "bool" := by rfl) : PE X (.Name "bool" pos) (tC (.ty "bool")) := pe_bltn hg B.bool (by decide +kernel) rfl
theorem pe_tTuple (B : Bls X.mg) (hg : Gl X "tuple" := by rfl) : PE X (.Name "tuple" pos) (tC (.ty "tuple")) := pe_bltn hg B.tuple (by decide +kernel) rfl
theorem pe_tList (B : Bls X.mg) (hg : Gl X "list" := by rfl) : PE X (.Name "list" pos) (tC (.ty "list")) := pe_bltn hg B.list (by decide +kernel) rfl
/-- len(a), a a list or a tuple -/
theorem pe_len (B : Bls X.mg) (ha : PE X a ta) (hg : Gl X "len" := by rfl) (he : starEach [a] X.env = (false, eval a X.env) :: starEach [] X.env := by rfl)
    (hpl : (backTo pos (starEach [] X.env)).any (·.1) = false := by rfl) : PE X (.Call (.Name "len" p) [a] [] pos) (tCB (fun xs H Q => ∃ p ys, xs = [.ref p] ∧ (SqL X.K H p ys ∨ SqT X.K H p ys) ∧ Q (.int ys.length) H) (tCons ta tNil)) :=
  pe_callB call_len_seq hg B.len PySem.boot_len (pa_cons ha pa_nil he) (by decide) (by decide) he hpl
end
/-! ### rules of one's own -/
def rGetL (K : PySem.W.Frag) : V → V → Hp → VK → Prop := fun o i H Q => ∃ p xs k v, o = .ref p ∧ i = .int k ∧ SqL K H p xs ∧ 0 ≤ k ∧ xs[k.toNat]? = some v ∧ Q v H
theorem get_list {X : Cx} : PGet X (rGetL X.K) := by
  intro pins s σ H o i ov iv Q I ro ri h
  obtain ⟨p, xs, k, v, rfl, rfl, hq, h0, hx, q⟩ := h
  cases ro
  obtain ⟨t, rfl⟩ := ri
  obtain ⟨its, r, pl, hz⟩ := I.list hq
  obtain ⟨u, eu, ru⟩ := r.get hx
  have hn := line63
  have hlt := (List.getElem?_eq_some_iff.mp hx).1
  exact wpAny_getItem_list pl.isList h0 (by omega) (by simpa using eu) ⟨v, H, I, ru, q⟩
/-! ### heaps -/
theorem same_upd {H : Hp} {p : Addr} {o : HO} (hp : H p = none) : Same H (upd H p o) := fun b u e => by
  rw [upd_ne (ne_of_none e hp)]
  exact e
theorem Same.sqt {K : PySem.W.Frag} {H H' : Hp} {a : Addr} {xs : List V} (e : Same H H') (h : SqT K H a xs) : SqT K H' a xs := by
  rcases h with (h | ⟨o, h⟩) | h
  · exact .inl (.inl (e _ _ h))
  · exact .inl (.inr ⟨o, e _ _ h⟩)
  · exact .inr h
theorem ints_get {ns : List Int} {i : Nat} {y : V} (h : (ns.map V.int)[i]? = some y) : ∃ n, ns[i]? = some n ∧ y = .int n := by
  rw [List.getElem?_map] at h
  cases e : ns[i]? with
  | none => rw [e] at h; cases h
  | some n => rw [e] at h; exact ⟨n, rfl, (Option.some.inj h).symm⟩
theorem map_at {α : Type} {f : α → V} {l : List α} {i : Nat} {a : α} (h : l[i]? = some a) : (l.map f)[i]? = some (f a) := by
  rw [List.getElem?_map, h]
  rfl
end Lp
namespace Lp
open PySem PySem.Spec PyProof.Rows L2
/-! ### == and != of lists of ints, of pairs, of None -/
def flatD : PyData → Bool
  | .none => true
  | .bool _ => true
  | .int _ => true
  | _ => false
theorem flat_lay : ∀ {d : PyData}, flatD d = true → d.canLay0 = true ∧ d.depth = 0
  | .none, _ => ⟨by simp only [PyData.canLay0], by simp only [PyData.depth]⟩
  | .bool _, _ => ⟨by simp only [PyData.canLay0], by simp only [PyData.depth]⟩
  | .int _, _ => ⟨by simp only [PyData.canLay0], by simp only [PyData.depth]⟩
  | .str _, h => by cases h
  | .list _, h => by cases h
  | .tuple _, h => by cases h
  | .dict _, h => by cases h
theorem flats_lay : ∀ {ds : List PyData}, ds.all flatD = true → PyData.canLayAll0 ds = true ∧ PyData.depthAll ds = 0
  | [], _ => ⟨by simp only [PyData.canLayAll0], by simp only [PyData.depthAll]⟩
  | d :: ds, h => by
    rw [List.all_cons, Bool.and_eq_true] at h
    obtain ⟨h1, h2⟩ := flat_lay h.1
    obtain ⟨h3, h4⟩ := flats_lay h.2
    refine ⟨?_, ?_⟩
    · simp only [PyData.canLayAll0, h1, h3]; rfl
    · simp only [PyData.depthAll, h2, h4]; rfl
theorem shaped_flat {d : PyData} (h : flatD d = true) : SeqAt.shaped d = true := by
  obtain ⟨h1, h2⟩ := flat_lay h
  unfold SeqAt.shaped
  rw [h1, h2]
  rfl
theorem shaped_list {ds : List PyData} (h : ds.all flatD = true) : SeqAt.shaped (.list ds) = true := by
  obtain ⟨h1, h2⟩ := flats_lay h
  unfold SeqAt.shaped
  simp only [PyData.canLay0, PyData.depth, h1, h2]
  rfl
theorem shaped_tup {ds : List PyData} (h : ds.all flatD = true) : SeqAt.shaped (.tuple ds) = true := by
  obtain ⟨h1, h2⟩ := flats_lay h
  unfold SeqAt.shaped
  simp only [PyData.canLay0, PyData.depth, h1, h2]
  rfl
def intsD (ns : List Int) : PyData := .list (ns.map .int)
theorem ints_flat (ns : List Int) : (ns.map PyData.int).all flatD = true := by
  rw [List.all_map]
  exact List.all_eq_true.mpr fun _ _ => rfl
theorem shaped_ints (ns : List Int) : SeqAt.shaped (intsD ns) = true := shaped_list (ints_flat ns)
theorem eqvAll_ints : ∀ a b : List Int, PyData.eqvAll (a.map .int) (b.map .int) = decide (a = b)
  | [], [] => by simp [PyData.eqvAll]
  | [], _ :: _ => by simp [PyData.eqvAll]
  | _ :: _, [] => by simp [PyData.eqvAll]
  | x :: a, y :: b => by
    rw [List.map_cons, List.map_cons, PyData.eqvAll, eqvAll_ints a b, PyData.eqv]
    by_cases h : x = y
    · subst h
      simp
    · simp [h]
theorem eqv_ints (a b : List Int) : PyData.eqv (intsD a) (intsD b) = decide (a = b) := by
  unfold intsD
  rw [PyData.eqv]
  exact eqvAll_ints a b
section
variable {K : PySem.W.Frag} {H : Hp}
theorem dpAll_ints : ∀ ns : List Int, DpAll K H (ns.map V.int) (ns.map PyData.int)
  | [] => .nil
  | n :: ns => .cons (.int n) (dpAll_ints ns)
theorem dp_ints {a : Addr} {ns : List Int} (h : SqL K H a (ns.map V.int)) : Dp K H (.ref a) (intsD ns) := .lst h (dpAll_ints ns)
theorem ne_ints {a b : Addr} {ns ms : List Int} {Q : VK} (h1 : SqL K H a (ns.map V.int)) (h2 : SqL K H b (ms.map V.int)) (q : Q (.bl (!decide (ns = ms))) H) : rNeD K (.ref a) (.ref b) H Q :=
  ⟨_, _, dp_ints h1, dp_ints h2, shaped_ints _, shaped_ints _, by rw [eqv_ints]; exact q⟩
theorem eq_ints {a b : Addr} {ns ms : List Int} {Q : VK} (h1 : SqL K H a (ns.map V.int)) (h2 : SqL K H b (ms.map V.int)) (q : Q (.bl (decide (ns = ms))) H) : rEqD K (.ref a) (.ref b) H Q :=
  ⟨_, _, dp_ints h1, dp_ints h2, shaped_ints _, shaped_ints _, by rw [eqv_ints]; exact q⟩
end
end Lp
namespace Lp
open PySem L2
def top (i : Nat) : Stmt := PySem.Challenge.pw_lastpiece_k08_which_courtesies_and_enoug.main.body.getD i (.Pass ⟨0, 0, 0, 0⟩)
abbrev c_DishError : Stmt := top 1
abbrev c_NoTable : Stmt := top 2
abbrev c_NoDish : Stmt := top 3
abbrev c_NoSeat : Stmt := top 4
abbrev c_NoShares : Stmt := top 5
abbrev s_is_within : Stmt := top 8
abbrev s_is_guest : Stmt := top 9
abbrev s_is_table : Stmt := top 10
abbrev s_need_table : Stmt := top 11
abbrev s_need_dish : Stmt := top 12
abbrev s_need_seat : Stmt := top 13
abbrev s_need_shares : Stmt := top 14
abbrev c_Going : Stmt := top 16
abbrev s_Going_init : Stmt := inClass (top 16) 0
abbrev s_Going_would_take : Stmt := inClass (top 16) 1
abbrev s_Going_rounds : Stmt := inClass (top 16) 2
abbrev s_Going_visit : Stmt := inClass (top 16) 3
abbrev s_Going_go : Stmt := inClass (top 16) 4
abbrev s_rested : Stmt := top 17
abbrev s_need_asked : Stmt := top 18
abbrev s_least_true : Stmt := top 20
abbrev s_need_seen : Stmt := top 22
abbrev s_with_guest : Stmt := top 23
abbrev s_courtesies : Stmt := top 24
abbrev s_enoughs : Stmt := top 25
abbrev s_law_cell_at : Stmt := top 27
abbrev s_law_draws : Stmt := top 28
abbrev s_law_bag : Stmt := top 29
abbrev s_law_bags : Stmt := top 30
abbrev s_law_take : Stmt := top 31
abbrev s_law_far_draw : Stmt := top 32
abbrev s_law_table : Stmt := top 33
abbrev s_law_rest : Stmt := top 34
abbrev s_law_with : Stmt := top 35
abbrev s_law_ends : Stmt := top 36
abbrev s_law : Stmt := top 37
end Lp
namespace Lp
open PySem PySem.Spec PyProof.Rows L2 LamX NdefX
/-! ### values that are called: lambdas and defs made within a def -/
/-- a lambda's object at f, told by the words of F and its expression b -/
def FnL (f : Addr) (F : NF) (b : Expr) : HO := .ext fun hp => ∃ (pm tup : Value), hp.get? f = some (PySem.W.kla_obj F.name F.qual F.params b F.scope F.cl pm F.c tup)
section
variable {X : Cx} {pins : List (Addr × Obj)} {σ : L2.St} {H HZ : Hp} {s : Shared} {cl cl' : List (Str × Addr)} {fr fr' : List Str} {ws : List (Option V)} {js : List Nat}
theorem fnL_at {P : Program} {w : World} {hp : Heap} {f : Addr} {F : NF} {b : Expr} (ok : HOk P w H hp) (e : H f = some (FnL f F b)) : ∃ (pm tup : Value), hp.get? f = some (PySem.W.kla_obj F.name F.qual F.params b F.scope F.cl pm F.c tup) := by
  obtain ⟨q, _, _⟩ := ok f _ e
  exact q
theorem inv_lam {F : NF} {b : Expr} {tk : Nat} {pm tup : Value} (I : Inv X pins σ H s) :
    Inv X pins σ (upd H s.heap.objs.size (FnL s.heap.objs.size F b)) { s with heap := s.heap.push (PySem.W.kla_obj F.name F.qual F.params b F.scope F.cl pm F.c tup), toks := tk } := by
  have e : (s.heap.push (PySem.W.kla_obj F.name F.qual F.params b F.scope F.cl pm F.c tup)).get? s.heap.objs.size = some (PySem.W.kla_obj F.name F.qual F.params b F.scope F.cl pm F.c tup) := Heap.get?_push_size _ rfl
  exact I.laid (a := s.heap.objs.size) (fun x u q => Heap.get?_push_of_some _ q) (Nat.le_refl _) ⟨⟨pm, tup, e⟩, ⟨_, e⟩, fun h1 h2 ⟨pm', tup', z⟩ st => ⟨pm', tup', st _ z⟩⟩
/-- what the cells hold goes on to a later state of which they are no part -/
theorem cells_move {fs : List Addr} {hp hq : Heap} (C : CellsAt cl fr ws hp H) (u : Un fs [] H HZ hp hq) : CellsAt cl fr ws hq HZ := by
  have go : ∀ (a : Addr), H a = none → ∀ v, hp.IsCell a v → hq.IsCell a v := fun a n v ⟨o, ho, hd⟩ => by
    obtain ⟨sl, z⟩ := u.any ho n (by simp)
    exact ⟨_, z, hd⟩
  refine ⟨C.len, fun y a e => ?_, C.inj, fun i y e => ?_⟩
  · obtain ⟨n, v, z⟩ := C.all y a e
    refine ⟨?_, v, go a n v z⟩
    obtain ⟨o, ho, _⟩ := z
    exact u.free a o ho n (by simp)
  · obtain ⟨a, ha, hv⟩ := C.has i y e
    refine ⟨a, ha, fun v ev => ?_⟩
    obtain ⟨x, r, z⟩ := hv v ev
    exact ⟨x, r, go a (C.all y a ha).1 _ z⟩
/-- the cells of a function that captured some of them -/
theorem cells_sub (C : CellsAt cl fr ws s.heap H) (h1 : ∀ y a, cl'.lookup y = some a → cl.lookup y = some a) (h2 : ∀ y ∈ fr', ∀ a, cl.lookup y = some a → cl'.lookup y = some a) (h3 : js.map (fun j => fr[j]?) = fr'.map some) :
    CellsAt cl' fr' (js.map (slotAt ws)) s.heap H := by
  have hl := congrArg List.length h3
  rw [List.length_map, List.length_map] at hl
  refine ⟨by rw [List.length_map]; exact hl, fun y a e => C.all y a (h1 y a e), fun x y a e1 e2 => C.inj x y a (h1 x a e1) (h1 y a e2), fun i y e => ?_⟩
  have q : (js.map fun j => fr[j]?)[i]? = some (some y) := by
    rw [h3, List.getElem?_map, e] <;> rfl
  rw [List.getElem?_map] at q
  cases ej : js[i]? with
  | none => rw [ej] at q; cases q
  | some j =>
    rw [ej] at q
    have hj : fr[j]? = some y := Option.some.inj (show some (fr[j]?) = some (some y) from q)
    obtain ⟨a, ha, hv⟩ := C.has j y hj
    refine ⟨a, h2 y (List.mem_of_getElem? e) a ha, fun v ev => hv v ?_⟩
    rw [List.getElem?_map, ej] at ev
    exact slotAt_some (Option.some.inj (show some (slotAt ws j) = some (some v) from ev))
/-- a lambda is made -/
theorem lam_mk {T : List NTab} {nm : Nat → Nat → Str} {c P : Addr} {params : Arguments} {b : Expr} {sl : Scope} {pos : Pos} {E Q : Value → Shared → Prop} (I : Inv X pins σ H s) (TB : TabB X.base X.mg c P) (hcode : X.env.code = .ref c)
    (mem : (P, nm) ∈ T) (name : nm pos.line pos.col = X.env.qual ++ "<lambda>") (uniq : ∀ p ∈ T, p.1 = P → p.2 = nm) (hT : TabsN T H) (caps : ∀ y ∈ sl.names, y.2 = .free → ∃ c, X.env.cells.lookup y.1 = some c)
    (go : ∀ (f c' : Addr) (H1 : Hp) (s' : Shared), Inv X pins σ H1 s' → ExtN H H1 → (∀ x, H1 x = none → H x = none) → TabsN T H1 → H1 f = some (FnL f ⟨"<lambda>", X.env.qual ++ "<lambda>", params, [], sl, cloFrom X.env.cells sl.names [], c'⟩ b) → H1 c' = some (CodeO c' (X.env.qual ++ "<lambda>")) → Q (.ref f) s') :
    wpAny (model X.prog X.w) X.A (makeFunction "<lambda>" (X.env.qual ++ "<lambda>") params (.expr b) sl X.env [] [] [] pos pos.line) Q E s := by
  obtain ⟨ps, hP, trip, among⟩ := (show TabN H P nm from hT _ mem)
  have blt := TB.bm.keeps I.bk
  have hP' := I.hok P _ hP
  cases fnd : codeAmong pos ps.toList with
  | some cv =>
    obtain ⟨c', rfl, hco⟩ := among pos cv fnd
    rw [name] at hco
    refine PySem.W.kla_makeFunctionHit (mg := X.mg) (c := c) (P := P) (ps := ps) (closure_ok caps) I.ok.glob (I.mod.glob.keeps I.bk) hcode (TB.code.keeps I.bk) hP' trip fnd blt fun tup h' tk keep hsz => ?_
    have J : Inv X pins σ H { s with heap := h', toks := tk } := I.kept keep
    have new : H h'.objs.size = none := J.hok.fresh (Nat.le_refl _)
    have J2 := inv_lam (F := ⟨"<lambda>", X.env.qual ++ "<lambda>", params, [], sl, cloFrom X.env.cells sl.names [], c'⟩) (b := b) (tk := tk) (pm := (X.mg "__name__").getD .none) (tup := tup) J
    refine go h'.objs.size c' _ _ J2 (fun x o e _ => ?_) (fun x e => upd_none e) (hT.ext fun x o e => ?_) upd_same ?_
    · exact (upd_ne (ne_of_none e new)).trans e
    · exact (upd_ne (ne_of_none e new)).trans e
    · exact (upd_ne (ne_of_none hco new)).trans hco
  | none =>
    refine PySem.W.kla_makeFunction (mg := X.mg) (c := c) (P := P) (ps := ps) (closure_ok caps) I.ok.glob (I.mod.glob.keeps I.bk) hcode (TB.code.keeps I.bk) hP' trip fnd TB.gP blt fun c' tup h' tk keep above below rec tab => ?_
    obtain ⟨_, oc, vs, t, eq, hoc, hd, hv⟩ := rec
    cases eq
    have new := I.hok.fresh above
    have J := inv_table (t' := tk) (more := #[rawInt pos.line, rawInt pos.col, .ref c']) (h' := h') I hP (fun x o hx e => keep x o hx e) tab above ⟨oc, vs, t, hoc, hd, hv⟩
    have grown : ExtN H (upd (upd H P (.tbl (ps ++ #[rawInt pos.line, rawInt pos.col, .ref c']))) c' (CodeO c' (X.env.qual ++ "<lambda>"))) := fun x o e no => by
      rw [upd_ne (ne_of_none e new), upd_ne (fun z => no ps (Option.some.inj (e.symm.trans (by rw [z]; exact hP))))]
      exact e
    have asList : (ps ++ #[rawInt pos.line, rawInt pos.col, .ref c']).toList = ps.toList ++ [rawInt pos.line, rawInt pos.col, .ref c'] := by simp
    have hT1 : TabsN T (upd (upd H P (.tbl (ps ++ #[rawInt pos.line, rawInt pos.col, .ref c']))) c' (CodeO c' (X.env.qual ++ "<lambda>"))) := fun p hp => by
      by_cases same : p.1 = P
      · rw [uniq p hp same, same]
        refine ⟨_, by rw [upd_ne (ne_of_none hP new), upd_same], by rw [asList]; exact PySem.TriplesOk_snoc _ _ _ _ trip, fun p' cv q => ?_⟩
        rw [asList] at q
        rcases among_app2 _ trip q with z | ⟨z, z1, z2⟩
        · obtain ⟨c0, a1, a2⟩ := among p' cv z
          exact ⟨c0, a1, grown _ _ a2 codeO_ne⟩
        · refine ⟨c', z, ?_⟩
          rw [← z1, ← z2, name]
          exact upd_same
      · obtain ⟨qs, a1, a2, a3⟩ := hT p hp
        refine ⟨qs, by rw [upd_ne (ne_of_none a1 new), upd_ne same]; exact a1, a2, fun p' cv q => ?_⟩
        obtain ⟨c0, b1, b2⟩ := a3 p' cv q
        exact ⟨c0, b1, grown _ _ b2 codeO_ne⟩
    have newF := J.hok.fresh (Nat.le_refl _)
    have J2 := inv_lam (F := ⟨"<lambda>", X.env.qual ++ "<lambda>", params, [], sl, cloFrom X.env.cells sl.names [], c'⟩) (b := b) (tk := tk) (pm := (X.mg "__name__").getD .none) (tup := tup) J
    refine go h'.objs.size c' _ _ J2 (fun x o e no => ?_) (fun x e => upd_none (upd_none (upd_none e))) (hT1.ext fun x o e => ?_) upd_same ?_
    · have e1 := grown x o e no
      exact (upd_ne (ne_of_none e1 newF)).trans e1
    · exact (upd_ne (ne_of_none e newF)).trans e
    · exact (upd_ne (Nat.ne_of_lt below)).trans upd_same
end
/-- the reading of «lambda ..: b», handed on -/
def tLamE (T : List NTab) (mk : Addr → NF) (b : Expr) : TE := fun _ H Q => TabsN T H ∧ ∀ (f c' : Addr) (H1 : Hp), ExtN H H1 → (∀ x, H1 x = none → H x = none) → TabsN T H1 → H1 f = some (FnL f (mk c') b) → H1 c' = some (CodeO c' (mk c').qual) → Q (.ref f) H1
theorem pe_lam {X : Cx} {T : List NTab} {nm : Nat → Nat → Str} {c P : Addr} {params : Arguments} {b : Expr} {sl : Scope} {pos : Pos} (TB : TabB X.base X.mg c P) (hcode : X.env.code = .ref c) (mem : (P, nm) ∈ T) (name : nm pos.line pos.col = X.env.qual ++ "<lambda>") (uniq : ∀ p ∈ T, p.1 = P → p.2 = nm)
    (caps : ∀ y ∈ sl.names, y.2 = .free → X.env.scope.names.lookup y.1 = some .cell ∨ X.env.scope.names.lookup y.1 = some .free) (hdef : defaultsOf params X.env = ([], [])) :
    PE X (.Lambda params b sl pos) (tLamE T (fun c' => ⟨"<lambda>", X.env.qual ++ "<lambda>", params, [], sl, cloFrom X.env.cells sl.names [], c'⟩) b) := by
  refine ⟨fun pins s σ H Q I ⟨hT, h⟩ => PySem.W.kla_eval hdef (lam_mk I TB hcode mem name uniq hT (fun y hy e => (caps y hy e).elim (fun z => I.ok.has _ (.inl z)) fun z => I.ok.has _ (.inr z)) fun f c' H1 s' J e1 e0 e2 e3 e4 => ?_)⟩
  exact ⟨.ref f, H1, J, rfl, h f c' H1 e1 e0 e2 e3 e4⟩
/-! ### what a called value promises -/
/-- f may be called where kn is known of the heap and the cells cl hold ws -/
def VOk (P : Program) (w : World) (K : PySem.W.Frag) (mg : Str → Option Value) (base : Heap) (k : Nat) (kn : Hp → Prop) (f : Addr) (cl : List (Str × Addr)) (fr : List Str) (sp : List (Option V) → Sp) : Prop :=
  ∀ (A : Around) (outer : List Env) (s : Shared) (H : Hp) (us : List Value) (vs : List V) (ws : List (Option V)) (Q : VK), Room k A → Env0 P w K mg base A outer s H → kn H → CellsAt cl fr ws s.heap H → Vals vs us → sp ws vs H Q L2.E0 →
    codeAny (model P w) A (.call (.ref f) ⟨us, []⟩) (CR L2.CX0 outer P w H s Q L2.E0) s
/-- what is known of a lambda, of a def made within a def -/
def KnL (f : Addr) (F : NF) (b : Expr) (H : Hp) : Prop := H f = some (FnL f F b) ∧ H F.c = some (CodeO F.c F.qual)
def KnN (f : Addr) (F : NF) (H : Hp) : Prop := H f = some (FnO f F) ∧ H F.c = some (CodeO F.c F.qual)
section
variable {P : Program} {w : World} {K : PySem.W.Frag} {mg : Str → Option Value} {base : Heap} {k j : Nat} {kn : Hp → Prop} {f : Addr} {F : NF} {b : Expr} {cl : List (Str × Addr)} {fr frL ps N : List Str} {js : List Nat} {sp : List (Option V) → Sp}
theorem vok_nok {sp' : List (Option V) → Sp} (o : NOk P w K mg base L2.CX0 k f F ps frL sp') (h1 : ∀ y a, F.cl.lookup y = some a → cl.lookup y = some a) (h2 : ∀ y ∈ frL, ∀ a, cl.lookup y = some a → F.cl.lookup y = some a) (h3 : js.map (fun j => fr[j]?) = frL.map some) :
    VOk P w K mg base k (KnN f F) f cl fr (fun ws => sp' (js.map (slotAt ws))) := fun A outer s H us vs ws Q hr e0 kn C r q =>
  o.run A outer s H us vs _ Q L2.E0 hr e0 kn.1 kn.2 (cells_sub C h1 h2 h3) r q
/-- a lambda by its expression -/
theorem vok_lam (S : NScope N ps frL F.scope) (hb : ∀ (pm tup : Value) (us : List Value), us.length = ps.length → bindArgs (PySem.W.kla_fn F.name F.qual F.params b F.scope F.cl pm (.ref F.c) tup) ⟨us, []⟩ = pure (ps.zip us)) (len : ∀ ws vs H Q E, sp ws vs H Q E → vs.length = ps.length)
    (h1 : ∀ y a, F.cl.lookup y = some a → cl.lookup y = some a) (h2 : ∀ y ∈ frL, ∀ a, cl.lookup y = some a → F.cl.lookup y = some a) (h3 : js.map (fun j => fr[j]?) = frL.map some)
    (body : ∀ (A : Around) (outer : List Env) (s : Shared) (H : Hp) (vs : List V) (ws : List (Option V)) (Q : VK), Room k (A.deeper (envF F f s.heap.objs.size)) → KnL f F b H → CellsAt cl fr ws s.heap H → sp ws vs H Q L2.E0 →
      ∃ t, PE (ncx L2.CX0 P w K mg base N F f A outer s H L2.E0) b t ∧ t (startF N vs (js.map (slotAt ws))) H Q) :
    VOk P w K mg base (k + 1) (KnL f F b) f cl fr sp := fun A outer s H us vs ws Q hr e0 kn C r q => by
  have hl := len _ _ _ _ _ q
  have lim : s.heap.NoLimit := e0.mod.nolimit.keeps fun x o e => (e0.bs x o e).1
  obtain ⟨pm, tup, ho⟩ := fnL_at e0.hok kn.1
  refine PySem.W.kla_callFunE hr.depth ho rfl S.co S.gen rfl (codeO_at e0.hok kn.2) ?_
  rw [hb pm tup us (by rw [← r.length]; exact hl)]
  refine wpAny_pure (wpAny_newFunctionEnv S.nocell (fun ⟨n, _⟩ hy => S.par n (List.of_mem_zip hy).1) (fun h₁ ns sb => ⟨lim.fresh _ sb, ?_⟩) S.kind)
  show codeAny _ _ (.expr b (envF F f s.heap.objs.size)) _ _
  have keep : ∀ x o, s.heap.get? x = some o → h₁.get? x = some o := fun x o e => sb.extBut x o (Nat.ne_of_lt (Heap.lt_size e)) (Heap.get?_push_of_some _ e)
  obtain ⟨t, ht, hq⟩ := body A outer s H vs ws Q (hr.deeper _) kn C q
  have J : Inv (ncx L2.CX0 P w K mg base N F f A outer s H L2.E0) [] (startF N vs (js.map (slotAt ws))) H { s with heap := h₁, toks := s.toks + (ps.zip us).length } := inv_startN S hr.hd e0 hl r (cells_sub C h1 h2 h3) ns keep
  refine PySem.W.kla_codeExpr (wpAny_mono (ht.run [] _ _ H Q J hq) (fun v s' z => ?_) fun e s' z => z)
  obtain ⟨x, H', J', rv, q'⟩ := z
  exact ⟨x, H', J'.os, J'.bare, J'.base, J'.hok, rv, q'⟩
end
/-- f(..), f the value that a name holds -/
def tCallW (i : Nat) (kn : Hp → Prop) (f : Addr) (sp : Sp) (t : TA) : TE := fun σ H Q => σ[i]? = some (some (.ref f)) ∧ kn H ∧ t σ H fun vs H1 => kn H1 ∧ sp vs H1 Q L2.E0
section
variable {X : Cx} {k j i : Nat} {kn : Hp → Prop} {f : Addr} {cl : List (Str × Addr)} {fr : List Str} {ws : List (Option V)} {sp : List (Option V) → Sp} {x : Str} {t : TA} {e : Expr} {es : List Expr} {p pos : Pos}
theorem fnAtL {P : Program} {w : World} {hp : Heap} {H : Hp} {F : NF} {b : Expr} (ok : HOk P w H hp) (q : KnL f F b H) : PySem.W.FnAt f hp := by
  obtain ⟨pm, tup, ho⟩ := fnL_at ok q.1
  exact ⟨_, _, _, _, ho⟩
theorem fnAtN {P : Program} {w : World} {hp : Heap} {H : Hp} {F : NF} (ok : HOk P w H hp) (q : KnN f F H) : PySem.W.FnAt f hp := by
  obtain ⟨od, sl, doc, pm, tup, ho⟩ := fnO_at ok q.1
  exact ⟨_, od, _, sl, ho⟩
theorem pe_callW (V : VOk X.prog X.w X.K X.mg X.base k kn f cl fr sp) (fa : ∀ (hp : Heap) (H : Hp), HOk X.prog X.w H hp → kn H → PySem.W.FnAt f hp) (C : CellsAt cl fr ws X.s_0.heap X.H_0) (hex : X.ex = []) (hr : Room j X.A) (hN : X.N[i]? = some x) (hv : Vis X.env.scope x) (ha : PA X (e :: es) t) (hk : k ≤ j)
    (hd : (x == ("__debug__" : Str)) = false := by decide) (hcd : (x == ("__classdict__" : Str)) = false := by decide)
    (he : starEach (e :: es) X.env = (false, eval e X.env) :: starEach es X.env := by rfl) (hpl : (backTo pos (starEach es X.env)).any (·.1) = false := by rfl) :
    PE X (.Call (.Name x p) (e :: es) [] pos) (tCallW i kn f (sp ws) t) := by
  refine ⟨fun pins s σ H Q I ⟨hs, hf, ht⟩ => ?_⟩
  refine wpAny_Call_Name_kw (thn ((pe_var (pos := p) hN hv hd hcd).run pins s σ H (fun v H1 => v = .ref f ∧ H1 = H) I ⟨.ref f, hs, rfl, rfl⟩) fun u s1 ⟨v, H1, I1, r1, ev, eH⟩ => ?_)
  subst ev
  subst eH
  obtain rfl : u = Value.ref f := r1
  refine PySem.W.callWith_F (first := []) (fa _ _ I1.hok hf) (thn (ha.run pos pins s1 σ H1 _ I1 ht) fun us s2 ⟨vs, H2, I2, r, h1, q⟩ => ⟨fa _ _ I2.hok h1, ?_⟩) he hpl
  show wpAny _ _ (call (.ref f) us) _ _ _
  have u2 := I2.base
  rw [hex] at u2
  refine wpAny_call (codeAny_mono (V X.A X.stack s2 H2 us vs ws Q (hr.mono hk) I2.env0 h1 (cells_move C u2) r q) fun r s' hq => ?_)
  cases r with
  | error e => exact (show False from hq).elim
  | ok fl =>
    cases fl with
    | ret u => exact I2.after hq
    | next => exact False.elim hq
    | brk => exact False.elim hq
    | cont => exact False.elim hq
end
/-! ### a def whose code object is known -/
structure FunC (K : PySem.W.Frag) (x qual : Str) (st : Stmt) (f c : Addr) (fd : FuncData) : Prop where
  ex : ∃ (oc : Value) (od : Option Addr) (kV doc pm : Value) (an : Option Addr) (ct : Value) (osl : Array (Option Value)),
    fd = PySem.W.fnOf x qual (defArgs st) (defBody st) (defScope st) .none kV doc pm an (.ref c) ct ∧ K.lookup f = some ⟨oc, od, .func fd, osl⟩ ∧ PySem.W.codeIn K (.ref c) qual = true
  kp : PySem.W.keepIn K (.ref f) = true
theorem FunC.fn {K : PySem.W.Frag} {x qual : Str} {st : Stmt} {f c : Addr} {fd : FuncData} (F : FunC K x qual st f c fd) : L2.Fun K x qual st f fd := by
  obtain ⟨oc, od, kV, doc, pm, an, ct, osl, h⟩ := F.ex
  exact ⟨⟨oc, od, kV, doc, pm, an, .ref c, ct, osl, h⟩, F.kp⟩
theorem FunC.ok {P : Program} {w : World} {K : PySem.W.Frag} {mg : Str → Option Value} {base : Heap} {x qual : Str} {st : Stmt} {f c : Addr} {fd : FuncData} {N ps : List Str} {k : Nat} {sp : Sp} (F : FunC K x qual st f c fd) (S : FnScope N ps (defScope st)) (ln : ∀ vs H Q E, sp vs H Q E → vs.length = ps.length)
    (go : ∀ (A : Around) (outer : List Env) (s : Shared) (H : Hp) (vs : List V) (Q : VK) (E : XK), Room k (A.deeper (envOfC qual (defScope st) s.heap.objs.size f (.ref c))) → sp vs H Q E →
      ∃ t, PSs (cxOf L2.CX0 P w K mg base N qual (defScope st) f (.ref c) A outer s H E).nox (defBody st) t ∧ t { nx := fun _ H' => Q .non H', rt := Q } (L2.start N vs) H) : FnOk P w K mg base L2.CX0 (k + 1) f fd ps sp := by
  obtain ⟨oc, od, kV, doc, pm, an, ct, osl, rfl, lk, hcd⟩ := F.ex
  exact fn_of lk hcd S ln fun A outer s H vs Q E hr hsp => (go A outer s H vs Q E hr hsp).imp fun t h => ⟨h.1.nox, h.2⟩
/-! ### a lambda's words -/
def lastArg : Expr → Expr
  | .Call _ es _ _ => es.getLastD (.Constant .none 0 ⟨0, 0, 0, 0⟩)
  | e => e
def retOf : Stmt → Expr
  | .Return (some e) _ => e
  | .Assign _ e _ => e
  | _ => .Constant .none 0 ⟨0, 0, 0, 0⟩
def lamB : Expr → Expr
  | .Lambda _ b _ _ => b
  | e => e
def lamA : Expr → Arguments
  | .Lambda a _ _ _ => a
  | _ => { posonlyargs := [], args := [], vararg := none, kwonlyargs := [], kw_defaults := [], kwarg := none, defaults := [] }
def lamS : Expr → Scope
  | .Lambda _ _ sc _ => sc
  | _ => { kind := .function, names := [], isGenerator := false, isCoroutine := false }
/-- which of the maker's cells it captures -/
def capB (sc sl : Scope) (fr : List Str) : Bool := sl.names.all (fun y => !decide (y.2 = .free) || decide (sc.names.lookup y.1 = some .cell)) && fr.all (fun y => decide ((y, NameKind.free) ∈ sl.names))
theorem cap_cell {sc sl : Scope} {fr : List Str} (h : capB sc sl fr = true) : ∀ y ∈ sl.names, y.2 = .free → sc.names.lookup y.1 = some .cell := fun y hy e => by
  unfold capB at h
  rw [Bool.and_eq_true, List.all_eq_true] at h
  have := h.1 y hy
  rw [e] at this
  simpa using this
theorem cap_fr {sc sl : Scope} {fr : List Str} (h : capB sc sl fr = true) : ∀ y ∈ fr, (y, NameKind.free) ∈ sl.names := fun y hy => by
  unfold capB at h
  rw [Bool.and_eq_true, List.all_eq_true, List.all_eq_true] at h
  simpa using h.2 y hy
theorem cap_sub {sc sl : Scope} {fr : List Str} {n : Nat} (h : capB sc sl fr = true) : ∀ y a, (cloFrom (cellsFrom n sc.names []) sl.names []).lookup y = some a → (cellsFrom n sc.names []).lookup y = some a := fun _ _ e =>
  clo_cm (fun y hy e => cell_has (cap_cell h y hy e)) e
theorem cap_sup {sc sl : Scope} {fr : List Str} {n : Nat} (h : capB sc sl fr = true) : ∀ y ∈ fr, ∀ a, (cellsFrom n sc.names []).lookup y = some a → (cloFrom (cellsFrom n sc.names []) sl.names []).lookup y = some a := fun y hy a e =>
  clo_has (fun y hy e => cell_has (cap_cell h y hy e)) (cap_fr h y hy) e
/-- the tables that a def with one lambda asks for -/
structure TabIn (T : List NTab) (P : Addr) (nm : Nat → Nat → Str) : Prop where
  mem : (P, nm) ∈ T
  uniq : ∀ p ∈ T, p.1 = P → p.2 = nm
end Lp
namespace Lp
open PySem PySem.Spec PyProof.Rows L2 LamX NdefX
/-! ### least_true -/
/-- what is asked of the test between lo and hi, and what comes of it -/
def LTok (lo hi : Int) (good : Int → Bool) (sp : Sp) (H : Hp) (Q : VK) : Prop :=
  lo ≤ hi ∧ (∀ (m : Int) (H' : Hp) (Q' : VK), Same H H' → lo ≤ m → m < hi → (∀ H'', Same H' H'' → Q' (.bl (good m)) H'') → sp [.int m] H' Q' L2.E0) ∧
  (∀ m n : Int, lo ≤ m → m ≤ n → n < hi → good m = true → good n = true) ∧
  ∀ (r : Int) (H' : Hp), Same H H' → lo ≤ r → r ≤ hi → (∀ m, lo ≤ m → m < r → good m = false) → (∀ m, r ≤ m → m < hi → good m = true) → Q (.int r) H'
structure CalLT (P : Program) (w : World) (K : PySem.W.Frag) (mg : Str → Option Value) (base : Heap) (x : Str) : Prop where
  ex : ∃ g : Addr, mg x = some (.ref g) ∧ PySem.W.keepIn K (.ref g) = true ∧ ∀ (k : Nat) (A : Around) (outer : List Env) (s : Shared) (H : Hp) (us : List Value) (lo hi : Int) (f : Addr) (kn : Hp → Prop) (cl : List (Str × Addr)) (fr : List Str) (ws : List (Option V)) (sp : List (Option V) → Sp) (good : Int → Bool) (Q : VK),
    Room (k + 1) A → Env0 P w K mg base A outer s H → Vals [.int lo, .int hi, .ref f] us → VOk P w K mg base k kn f cl fr sp → (∀ (hp : Heap) (H : Hp), HOk P w H hp → kn H → PySem.W.FnAt f hp) → (∀ H H' : Hp, Same H H' → kn H → kn H') → kn H → CellsAt cl fr ws s.heap H → LTok lo hi good (sp ws) H Q →
    codeAny (model P w) A (.call (.ref g) ⟨us, []⟩) (CR L2.CX0 outer P w H s Q L2.E0) s
section
variable {P : Program} {w : World} {K : PySem.W.Frag} {mg : Str → Option Value} {base : Heap}
theorem sc_least_true : FnScope ["low", "high", "good", "middle"] ["low", "high", "good"] (defScope s_least_true) := ⟨rfl, rfl, rfl, by decide +kernel, rfl, by decide +kernel, by decide +kernel⟩
theorem lt_run {g : Addr} {fd : FuncData} (F : L2.Fun K "least_true" "least_true" s_least_true g fd) (hm : mg "least_true" = some (.ref g)) : CalLT P w K mg base "least_true" := by
  have bd : Binds K fd ["low", "high", "good"] [] := F.binds (fun _ _ _ _ _ _ us hl => match us, hl with | [_, _, _], _ => rfl)
  have kp := F.kp
  obtain ⟨oc, od, kV, doc, pm, an, cdv, ct, osl, rfl, lk, hcd⟩ := F.ex
  refine ⟨g, hm, kp, fun k A outer s H us lo hi f kn cl fr ws sp good Q hr e0 r vok fa st kH C ok => ?_⟩
  have KX : K.In s.heap := e0.mod.kin.keeps fun b o e => (e0.bs b o e).1
  have hb := bd s us KX (by rw [List.append_nil, ← r.length]; rfl)
  rw [List.append_nil] at hb
  refine run_ofS (ps := ["low", "high", "good"]) (us := us) (vs := [.int lo, .int hi, .ref f]) lk hcd sc_least_true hr e0 hb r rfl fun hr' => ?_
  refine ⟨_, PSs.nox (pss_cons (ps_while PassesOwn.never (pt_cmpR op_lt (pv 0) (pv 1) (nomark _))
      (pss_cons (ps_set (i := 3) sc_least_true.nd rfl (Or.inl rfl) (pe_op op_fdiv (pe_op op_add (pv 0) (pv 1)) pe_int))
      (pss_one (ps_if (pt_val (pe_callW (i := 2) vok fa C rfl hr' rfl (Or.inl rfl) (pa_cons (pv 3) pa_nil) (Nat.le_refl _)))
      (pss_one (ps_set (i := 1) sc_least_true.nd rfl (Or.inl rfl) (pv 3)))
      (pss_one (ps_set (i := 0) sc_least_true.nd rfl (Or.inl rfl) (pe_op op_add (pv 3) pe_int)))))))
      (pss_one (ps_ret (pv 0)))), ?_⟩
  obtain ⟨le, test, mono, done⟩ := ok
  refine ⟨fun n σ H' => ∃ (lo' hi' : Int) (v3 : Option V), σ = [some (.int lo'), some (.int hi'), some (.ref f), v3] ∧ Same H H' ∧ lo ≤ lo' ∧ lo' ≤ hi' ∧ hi' ≤ hi ∧ (∀ m, lo ≤ m → m < lo' → good m = false) ∧ (∀ m, hi' ≤ m → m < hi → good m = true) ∧ n = (hi' - lo').toNat,
    ⟨_, lo, hi, none, rfl, Same.refl _, Int.le_refl _, le, Int.le_refl _, fun m h1 h2 => by omega, fun m h1 h2 => by omega, rfl⟩, ?_⟩
  rintro n σ H' ⟨lo', hi', v3, rfl, s', l1, l2, l3, bad, gd, rfl⟩
  refine ⟨_, rfl, _, rfl, _, _, rfl, rfl, _, rfl, ?_⟩
  refine ite2 (fun c => ?_) (fun c => ?_)
  · have lt := of_decide_eq_true c
    refine ⟨fun σ' H'' => ∃ m', m' < (hi' - lo').toNat ∧ ∃ (lo2 hi2 : Int) (v3 : Option V), σ' = [some (.int lo2), some (.int hi2), some (.ref f), v3] ∧ Same H H'' ∧ lo ≤ lo2 ∧ lo2 ≤ hi2 ∧ hi2 ≤ hi ∧ (∀ m, lo ≤ m → m < lo2 → good m = false) ∧ (∀ m, hi2 ≤ m → m < hi → good m = true) ∧ m' = (hi2 - lo2).toNat, fun _ _ h => h, ?_⟩
    refine ⟨_, rfl, _, rfl, _, _, rfl, rfl, _, _, rfl, rfl, ⟨by decide, by decide⟩, ?_⟩
    have b1 : lo' ≤ (lo' + hi') / 2 ∧ (lo' + hi') / 2 < hi' := by omega
    refine ⟨rfl, st _ _ s' kH, _, rfl, st _ _ s' kH, test ((lo' + hi') / 2) H' _ s' (by omega) (by omega) fun H2 s2 => ⟨_, rfl, ?_⟩⟩
    have s3 := Same.trans s' s2
    cases e : good ((lo' + hi') / 2) with
    | true => exact iteT ⟨_, rfl, ((lo' + hi') / 2 - lo').toNat, by omega, lo', (lo' + hi') / 2, _, rfl, s3, l1, b1.1, by omega, bad, fun m h1 h2 => mono _ m (by omega) h1 h2 e, rfl⟩
    | false =>
      refine iteF ⟨_, rfl, _, _, rfl, rfl, (hi' - ((lo' + hi') / 2 + 1)).toNat, by omega, (lo' + hi') / 2 + 1, hi', _, rfl, s3, by omega, by omega, l3, fun m h1 h2 => ?_, gd, rfl⟩
      cases e' : good m with
      | false => rfl
      | true => rw [mono m _ h1 (by omega) (by omega) e'] at e; cases e
  · have ge : ¬ lo' < hi' := fun z => c (decide_eq_true z)
    obtain rfl : lo' = hi' := by omega
    exact ⟨_, rfl, done lo' H' s' l1 l3 bad gd⟩
end
/-- least_true(lo, hi, lambda ..: b) -/
def tLT (mk : Addr → NF) (b : Expr) (js : List Nat) (sp : List (Option V) → Sp) (t : TA) : TE := fun σ H Q => t σ H fun vs H1 => ∃ (lo hi : Int) (f c' : Addr) (good : Int → Bool), vs = [.int lo, .int hi, .ref f] ∧ KnL f (mk c') b H1 ∧ LTok lo hi good (sp (js.map (slotAt σ))) H1 Q
theorem pe_lt {X : Cx} {k j : Nat} {x : Str} {mk : Addr → NF} {b : Expr} {js : List Nat} {fr : List Str} {sp : List (Option V) → Sp} {t : TA} {p pos : Pos} {e : Expr} {es : List Expr} (c : CalLT X.prog X.w X.K X.mg X.base x) (V : ∀ f c', VOk X.prog X.w X.K X.mg X.base k (KnL f (mk c') b) f X.env.cells fr sp) (cp : X.Ok → Caps X X.env.cells fr js)
    (hr : Room j X.A) (hk : k + 1 ≤ j) (ha : PA X (e :: es) t) (hg : Gl X x := by rfl) (hdb : (x == ("__debug__" : Str)) = false := by decide) (he : starEach (e :: es) X.env = (false, eval e X.env) :: starEach es X.env := by rfl) (hpl : (backTo pos (starEach es X.env)).any (·.1) = false := by rfl) :
    PE X (.Call (.Name x p) (e :: es) [] pos) (tLT mk b js sp t) := by
  obtain ⟨g, hm, kp, run⟩ := c.ex
  refine ⟨fun pins s σ H Q I h => wpAny_Call_Name_kw (ld_glob I hg hm ?_ hdb)⟩
  refine PySem.W.callWith_K (h₀ := X.base) I.ok.mod.kin kp (thn (ha.run pos pins s σ H _ I h) fun us s1 ⟨vs, H1, I1, r, lo, hi, f, c', good, ev, kn, ok⟩ => ⟨I1.kIn, ?_⟩) he hpl
  subst ev
  refine wpAny_call (codeAny_mono (run k X.A X.stack s1 H1 us lo hi f _ _ fr _ sp good Q (hr.mono hk) I1.env0 r (V f c') (fun hp H ok q => fnAtL ok q) (fun H H' st q => ⟨st _ _ q.1, st _ _ q.2⟩) kn (cells_of I1 (cp I1.ok)) ok) fun r s' hq => ?_)
  cases r with
  | error e => exact (show False from hq).elim
  | ok fl =>
    cases fl with
    | ret u => exact I1.after hq
    | next => exact False.elim hq
    | brk => exact False.elim hq
    | cont => exact False.elim hq
end Lp
namespace Lp
open PySem PySem.Spec PyProof.Rows L2
/-! ### tables: what is_table tells of data -/
def withinD (lo hi : Int) : PyData → Bool
  | .int i => decide (lo ≤ i) && decide (i ≤ hi)
  | _ => false
def enoughD : PyData → Bool
  | .none => true
  | e => withinD 0 1000000000000000000 e
def guestD : PyData → Bool
  | .tuple [c, e] => withinD 0 1000000000000000000 c && enoughD e
  | _ => false
def tableD : PyData → Bool
  | .tuple gs => decide (1 ≤ gs.length) && decide (gs.length ≤ 8) && gs.all guestD
  | _ => false
def spWithin (K : PySem.W.Frag) : Sp := fun vs H Q _ => ∃ (v : V) (lo hi : Int) (d : PyData), vs = [v, .int lo, .int hi] ∧ Dp K H v d ∧ Q (.bl (withinD lo hi d)) H
def spGuest (K : PySem.W.Frag) : Sp := fun vs H Q _ => ∃ (v : V) (d : PyData), vs = [v] ∧ Dp K H v d ∧ Q (.bl (guestD d)) H
def spTable (K : PySem.W.Frag) : Sp := fun vs H Q _ => ∃ (v : V) (d : PyData), vs = [v] ∧ Dp K H v d ∧ ∀ H', Same H H' → Q (.bl (tableD d)) H'
/-- the module's GREATEST -/
def Greatest (mg : Str → Option Value) : Prop := ∃ v, mg "GREATEST" = some v ∧ RelV (.int 1000000000000000000) v
section
variable {P : Program} {w : World} {K : PySem.W.Frag} {mg : Str → Option Value} {base : Heap}
theorem sc_is_within : FnScope ["thing", "low", "high"] ["thing", "low", "high"] (defScope s_is_within) := ⟨rfl, rfl, rfl, by decide +kernel, rfl, by decide +kernel, by decide +kernel⟩
theorem ok_is_within {f : Addr} {fd : FuncData} (F : L2.Fun K "is_within" "is_within" s_is_within f fd) (B : Bls mg) : FnOk P w K mg base L2.CX0 1 f fd ["thing", "low", "high"] (spWithin K) := by
  refine F.ok sc_is_within (fun vs H Q E h => ?_) (fun cdv A outer s H vs Q E hr h => ?_)
  · obtain ⟨v, lo, hi, d, rfl, _⟩ := h
    rfl
  · obtain ⟨v, lo, hi, d, rfl, hd, k⟩ := h
    refine ⟨_, (pss_one (ps_ret (pe_and (pe_isi B (pv 0) (pe_tInt B)) (pe_and (pe_not (pe_isi B (pv 0) (pe_tBool B))) (pe_one (pe_chain op_le op_le (pv 1) (pv 0) (pv 2))))))), ?_⟩
    refine ⟨_, rfl, ?_⟩
    cases hd with
    | non => 
      refine ⟨_, _, _, _, _, rfl, .ty _, tyx .non, kit_i _ _, ?_⟩
      exact ⟨_, rfl, iteF k⟩
    | str x => 
      refine ⟨_, _, _, _, _, rfl, .ty _, tyx (.str x), kit_i _ _, ?_⟩
      exact ⟨_, rfl, iteF k⟩
    | lst hs ha => 
      refine ⟨_, _, _, _, _, rfl, .ty _, tyx (.lst hs ha), kit_i _ _, ?_⟩
      exact ⟨_, rfl, iteF k⟩
    | tup hs ha => 
      refine ⟨_, _, _, _, _, rfl, .ty _, tyx (.tup hs ha), kit_i _ _, ?_⟩
      exact ⟨_, rfl, iteF k⟩
    | bl b => 
      refine ⟨_, _, _, _, _, rfl, .ty _, tyx (.bl b), kit_i _ _, ?_⟩
      refine ⟨_, rfl, iteT ⟨_, rfl, ?_⟩⟩
      refine ⟨_, _, _, _, _, rfl, .ty _, tyx (.bl b), kit_b _ _, ?_⟩
      exact ⟨_, rfl, _, rfl, iteF k⟩
    | int i =>
      refine ⟨_, _, _, _, _, rfl, .ty _, tyx (.int i), kit_i _ _, ?_⟩
      refine ⟨_, rfl, iteT ⟨_, rfl, ?_⟩⟩
      refine ⟨_, _, _, _, _, rfl, .ty _, tyx (.int i), kit_b _ _, ?_⟩
      refine ⟨_, rfl, _, rfl, iteT ?_⟩
      refine ⟨_, rfl, _, rfl, _, _, rfl, rfl, _, rfl, ?_⟩
      have k' : Q (.bl (decide (lo ≤ i) && decide (i ≤ hi))) H := k
      refine ite2 (fun c => ?_) (fun c => ?_)
      · rw [c, Bool.true_and] at k'
        exact ⟨_, rfl, _, _, rfl, rfl, k'⟩
      · rw [Bool.eq_false_iff.mpr c, Bool.false_and] at k'
        exact k'
theorem sc_is_guest : FnScope ["thing"] ["thing"] (defScope s_is_guest) := ⟨rfl, rfl, rfl, by decide +kernel, rfl, by decide +kernel, by decide +kernel⟩
theorem ok_is_guest {f : Addr} {fd : FuncData} (F : L2.Fun K "is_guest" "is_guest" s_is_guest f fd) (B : Bls mg) (G : Greatest mg) (c_is_within : Cal P w K mg base 1 "is_within" (spWithin K)) : FnOk P w K mg base L2.CX0 2 f fd ["thing"] (spGuest K) := by
  refine F.ok sc_is_guest (fun vs H Q E h => ?_) (fun cdv A outer s H vs Q E hr h => ?_)
  · obtain ⟨v, d, rfl, _⟩ := h
    rfl
  · obtain ⟨v, d, rfl, hd, k⟩ := h
    obtain ⟨gv, h_GREATEST, r_GREATEST⟩ := G
    refine ⟨_, (pss_cons (ps_if (PW.pt (pw_or (pt_not (pt_val (pe_isi B (pv 0) (pe_tTuple B)))) (pw_or (pt_cmpR op_ne (pe_len B (pv 0)) pe_int (nomark _)) (pw_or1 (pt_not (pt_val (pe_g c_is_within hr (pa_cons (pe_ix ix_tup (pv 0) pe_int (fun _ _ => rfl)) (pa_cons pe_int (pa_cons (pe_glob (by rfl) h_GREATEST r_GREATEST) pa_nil))))))))))
      (pss_one (ps_ret pe_bl))
      pss_nil)
      (pss_one (ps_ret (pe_or (pe_cmpR op_isN (pe_ix ix_tup (pv 0) pe_int (fun _ _ => rfl)) pe_non (nomark _)) (pe_one (pe_g c_is_within hr (pa_cons (pe_ix ix_tup (pv 0) pe_int (fun _ _ => rfl)) (pa_cons pe_int (pa_cons (pe_glob (by rfl) h_GREATEST r_GREATEST) pa_nil))))))))), ?_⟩
    refine ⟨_, rfl, ?_⟩
    cases hd with
    | non => 
      refine ⟨_, _, _, _, _, rfl, .ty _, tyx .non, kit_t _ _, ?_⟩
      exact ⟨_, rfl, iteT (iteT k)⟩
    | bl b => 
      refine ⟨_, _, _, _, _, rfl, .ty _, tyx (.bl b), kit_t _ _, ?_⟩
      exact ⟨_, rfl, iteT (iteT k)⟩
    | int i => 
      refine ⟨_, _, _, _, _, rfl, .ty _, tyx (.int i), kit_t _ _, ?_⟩
      exact ⟨_, rfl, iteT (iteT k)⟩
    | str x => 
      refine ⟨_, _, _, _, _, rfl, .ty _, tyx (.str x), kit_t _ _, ?_⟩
      exact ⟨_, rfl, iteT (iteT k)⟩
    | lst hs ha => 
      refine ⟨_, _, _, _, _, rfl, .ty _, tyx (.lst hs ha), kit_t _ _, ?_⟩
      exact ⟨_, rfl, iteT (iteT k)⟩
    | @tup a xs ds hs ha =>
      refine ⟨_, _, _, _, _, rfl, .ty _, tyx (.tup hs ha), kit_t _ _, ?_⟩
      refine ⟨_, rfl, iteF ?_⟩
      refine ⟨_, rfl, a, xs, rfl, .inr hs, rfl, _, rfl, ?_⟩
      cases ha with
      | nil => exact iteT (iteT k)
      | @cons v0 vs0 d0 ds0 h0 ha =>
        cases ha with
        | nil => exact iteT (iteT k)
        | @cons v1 vs1 d1 ds1 h1 ha =>
          cases ha with
          | @cons v2 vs2 d2 ds2 h2 ha =>
            have e : (decide (V.int ((v0 :: v1 :: v2 :: vs2).length : Nat) = V.int 2)) = false := by
              rw [dec_int]
              simp
              omega
            rw [e]
            exact iteT (iteT k)
          | nil =>
            refine iteF ⟨_, rfl, a, _, _, v0, rfl, rfl, hs, rfl, ⟨v0, 0, 1000000000000000000, d0, rfl, h0, ?_⟩⟩
            have k' : Q (.bl (withinD 0 1000000000000000000 d0 && enoughD d1)) H := k
            refine ⟨_, rfl, ?_⟩
            cases ew : withinD 0 1000000000000000000 d0 with
            | false =>
              rw [ew, Bool.false_and] at k'
              exact iteT k'
            | true =>
              rw [ew, Bool.true_and] at k'
              refine iteF ⟨_, rfl, a, _, _, v1, rfl, rfl, hs, rfl, rfl, _, rfl, ?_⟩
              cases h1 with
              | non => exact iteT k'
              | bl b => exact iteF ⟨_, rfl, a, _, _, _, rfl, rfl, hs, rfl, ⟨_, _, _, _, rfl, .bl b, k'⟩⟩
              | int b => exact iteF ⟨_, rfl, a, _, _, _, rfl, rfl, hs, rfl, ⟨_, _, _, _, rfl, .int b, k'⟩⟩
              | str b => exact iteF ⟨_, rfl, a, _, _, _, rfl, rfl, hs, rfl, ⟨_, _, _, _, rfl, .str b, k'⟩⟩
              | lst g1 g2 => exact iteF ⟨_, rfl, a, _, _, _, rfl, rfl, hs, rfl, ⟨_, _, _, _, rfl, .lst g1 g2, k'⟩⟩
              | tup g1 g2 => exact iteF ⟨_, rfl, a, _, _, _, rfl, rfl, hs, rfl, ⟨_, _, _, _, rfl, .tup g1 g2, k'⟩⟩
theorem dp_same {H H' : Hp} (s : Same H H') : (∀ {v : V} {d : PyData}, Dp K H v d → Dp K H' v d) ∧ ∀ {vs : List V} {ds : List PyData}, DpAll K H vs ds → DpAll K H' vs ds := by
  have key : ∀ (n : Nat), (∀ (d : PyData) (v : V), sizeOf d < n → Dp K H v d → Dp K H' v d) ∧ ∀ (ds : List PyData) (vs : List V), sizeOf ds < n → DpAll K H vs ds → DpAll K H' vs ds := by
    intro n
    induction n with
    | zero => exact ⟨fun _ _ h => absurd h (Nat.not_lt_zero _), fun _ _ h => absurd h (Nat.not_lt_zero _)⟩
    | succ n ih =>
      refine ⟨fun d v hn h => ?_, fun ds vs hn h => ?_⟩
      · cases h with
        | non => exact .non
        | bl b => exact .bl b
        | int i => exact .int i
        | str x => exact .str x
        | lst hs ha => exact .lst (s.seq hs) (ih.2 _ _ (by simp only [PyData.list.sizeOf_spec] at hn; omega) ha)
        | tup hs ha => exact .tup (Same.sqt s hs) (ih.2 _ _ (by simp only [PyData.tuple.sizeOf_spec] at hn; omega) ha)
      · cases h with
        | nil => exact .nil
        | cons h1 h2 =>
          simp only [List.cons.sizeOf_spec] at hn
          exact .cons (ih.1 _ _ (by omega) h1) (ih.2 _ _ (by omega) h2)
  exact ⟨fun {v d} h => (key (sizeOf d + 1)).1 d v (Nat.lt_succ_self _) h, fun {vs ds} h => (key (sizeOf ds + 1)).2 ds vs (Nat.lt_succ_self _) h⟩
theorem dpAll_get {H : Hp} : ∀ {vs : List V} {ds : List PyData} {i : Nat} {v : V}, DpAll K H vs ds → vs[i]? = some v → ∃ d, ds[i]? = some d ∧ Dp K H v d
  | _, _, _, _, .nil, e => by simp at e
  | _, _, 0, _, .cons h _, e => by simp at e; subst e; exact ⟨_, rfl, h⟩
  | _, _, i + 1, v, .cons _ h, e => by
    obtain ⟨d, h1, h2⟩ := dpAll_get (i := i) h (by simpa using e)
    exact ⟨d, by simpa using h1, h2⟩
theorem dpAll_len {H : Hp} : ∀ {vs : List V} {ds : List PyData}, DpAll K H vs ds → vs.length = ds.length
  | _, _, .nil => rfl
  | _, _, .cons _ h => congrArg Nat.succ (dpAll_len h)
theorem sc_is_table : FnScope ["thing", "one"] ["thing"] (defScope s_is_table) := ⟨rfl, rfl, rfl, by decide +kernel, rfl, by decide +kernel, by decide +kernel⟩
theorem ok_is_table {f : Addr} {fd : FuncData} (F : L2.Fun K "is_table" "is_table" s_is_table f fd) (B : Bls mg) (c_is_guest : Cal P w K mg base 2 "is_guest" (spGuest K)) : FnOk P w K mg base L2.CX0 3 f fd ["thing"] (spTable K) := by
  refine F.ok sc_is_table (fun vs H Q E h => ?_) (fun cdv A outer s H vs Q E hr h => ?_)
  · obtain ⟨v, d, rfl, _⟩ := h
    rfl
  · obtain ⟨v, d, rfl, hd, k⟩ := h
    have kF : tableD d = false → Q (.bl false) H := fun e => by
      rw [← e]; exact k H (Same.refl H)
    refine ⟨_, (pss_one (ps_ret (pe_and (pe_isi B (pv 0) (pe_tTuple B)) (pe_and (pe_chain op_le op_le pe_int (pe_len B (pv 0)) pe_int) (pe_one (pe_callB (cr_all rfl) (by rfl) B.all (by decide +kernel) (pa_cons (pe_lc (own := [("one", 1)]) (g := gName 1)  (tt := tYes) (by rfl) sc_is_table.nd (pi_tup (pv 0)) (blkOk_by (own := [("one", 1)]) (N := ["thing", "one"]) (sc := defScope s_is_table) (by decide +kernel)) (fun _ _ _ _ _ => by exact (pg_name (i := 1) sc_is_table.nd rfl (Or.inl rfl))) (fun _ _ _ _ _ => by exact pts_nil) (fun _ _ _ _ _ => by exact (pe_g c_is_guest hr (pa_cons (pv 1) pa_nil)))) pa_nil))))))), ?_⟩
    refine ⟨_, rfl, ?_⟩
    cases hd with
    | non => exact ⟨_, _, _, _, _, rfl, .ty _, tyx .non, kit_t _ _, _, rfl, iteF (kF rfl)⟩
    | bl b => exact ⟨_, _, _, _, _, rfl, .ty _, tyx (.bl b), kit_t _ _, _, rfl, iteF (kF rfl)⟩
    | int i => exact ⟨_, _, _, _, _, rfl, .ty _, tyx (.int i), kit_t _ _, _, rfl, iteF (kF rfl)⟩
    | str x => exact ⟨_, _, _, _, _, rfl, .ty _, tyx (.str x), kit_t _ _, _, rfl, iteF (kF rfl)⟩
    | lst hs ha => exact ⟨_, _, _, _, _, rfl, .ty _, tyx (.lst hs ha), kit_t _ _, _, rfl, iteF (kF rfl)⟩
    | @tup a xs ds hs ha =>
      refine ⟨_, _, _, _, _, rfl, .ty _, tyx (.tup hs ha), kit_t _ _, _, rfl, iteT ?_⟩
      have el := dpAll_len ha
      refine ⟨_, rfl, a, xs, rfl, .inr hs, _, _, rfl, rfl, _, rfl, ?_⟩
      refine ite2 (fun c1 => ?_) (fun c1 => ?_)
      · have l1 : 1 ≤ ds.length := by have := of_decide_eq_true c1; omega
        refine ⟨_, _, rfl, rfl, _, rfl, ?_⟩
        refine ite2 (fun c2 => ?_) (fun c2 => ?_)
        · have l2 : ds.length ≤ 8 := by have := of_decide_eq_true c2; omega
          refine ⟨_, rfl, a, rfl, ⟨_, hs⟩, fun D hD => ?_⟩
          refine lc_tup (K := K) (a := a) (xs := xs) (fun i H' => Same H H' ∧ H' D = some (.lst ((ds.take i).map fun d => V.bl (guestD d)))) ⟨same_upd hD, upd_same⟩ (fun i H' _ h => Same.sqt h.1 hs) ?_ ?_
          · rintro i x H' hi ⟨sm, hl⟩
            obtain ⟨d, e1, e2⟩ := dpAll_get ha hi
            refine ⟨rfl, ?_⟩
            have l8 : i < ds.length := by rw [← el]; exact (List.getElem?_eq_some_iff.mp hi).1
            refine ⟨_, rfl, x, d, rfl, (dp_same sm).1 e2, _, hl, by rw [List.length_map, List.length_take]; exact small1000 (by omega), fun b o e => ?_, ?_⟩
            · rw [upd_ne (ne_of_none e hD)]
              exact sm b o e
            · rw [upd_same, List.take_add_one, e1, List.map_append]
              rfl
          · rintro H' ⟨sm, hl⟩
            refine ⟨D, ds.map guestD, rfl, SqL.of ?_, ?_⟩
            · rw [hl, el, List.take_length, List.map_map]
              rfl
            · have e : tableD (.tuple ds) = (ds.map guestD).all id := by
                show (decide (1 ≤ ds.length) && decide (ds.length ≤ 8) && ds.all guestD) = _
                rw [decide_eq_true l1, decide_eq_true l2, List.all_map]
                rfl
              rw [← e]
              exact k H' sm
        · exact kF (by
            show (decide (1 ≤ ds.length) && decide (ds.length ≤ 8) && ds.all guestD) = false
            rw [show decide (ds.length ≤ 8) = false from decide_eq_false (by intro q; exact c2 (decide_eq_true (by omega)))]
            simp)
      · exact ⟨_, rfl, iteF (kF (by
          show (decide (1 ≤ ds.length) && decide (ds.length ≤ 8) && ds.all guestD) = false
          rw [show decide (1 ≤ ds.length) = false from decide_eq_false (by intro q; exact c1 (decide_eq_true (by omega)))]
          simp))⟩
end
end Lp
namespace Lp
open PySem PySem.Spec PyProof.Rows L2
/-! ### tables as data -/
abbrev Guest := Int × Option Int
def optD : Option Int → PyData
  | none => .none
  | some m => .int m
def optV : Option Int → V
  | none => .non
  | some m => .int m
def tabD (t : List Guest) : PyData := .tuple (t.map fun g => .tuple [.int g.1, optD g.2])
def TabOk (t : List Guest) : Prop := 1 ≤ t.length ∧ t.length ≤ 8 ∧ ∀ g ∈ t, 0 ≤ g.1 ∧ g.1 ≤ 1000000000000000000 ∧ ∀ m, g.2 = some m → 0 ≤ m ∧ m ≤ 1000000000000000000
theorem guestD_ok {g : Guest} (h : 0 ≤ g.1 ∧ g.1 ≤ 1000000000000000000 ∧ ∀ m, g.2 = some m → 0 ≤ m ∧ m ≤ 1000000000000000000) : guestD (.tuple [.int g.1, optD g.2]) = true := by
  obtain ⟨c, e⟩ := g
  obtain ⟨h1, h2, h3⟩ := h
  show (decide (0 ≤ c) && decide (c ≤ 1000000000000000000) && enoughD (optD e)) = true
  rw [decide_eq_true h1, decide_eq_true h2]
  cases e with
  | none => rfl
  | some m =>
    obtain ⟨h4, h5⟩ := h3 m rfl
    show (decide (0 ≤ m) && decide (m ≤ 1000000000000000000)) = true
    rw [decide_eq_true h4, decide_eq_true h5]
    rfl
theorem tableD_ok {t : List Guest} (h : TabOk t) : tableD (tabD t) = true := by
  obtain ⟨h1, h2, h3⟩ := h
  show (decide (1 ≤ (t.map _).length) && decide ((t.map _).length ≤ 8) && (t.map _).all guestD) = true
  rw [List.length_map, decide_eq_true h1, decide_eq_true h2, List.all_map]
  exact List.all_eq_true.mpr fun g hg => guestD_ok (h3 g hg)
section
variable {P : Program} {w : World} {K : PySem.W.Frag} {mg : Str → Option Value} {base : Heap}
abbrev TableAt (K : PySem.W.Frag) (H : Hp) (a : Addr) (t : List Guest) : Prop := Dp K H (.ref a) (tabD t)
/-- the guests' tuples -/
theorem TableAt.open {H : Hp} {a : Addr} {t : List Guest} (h : TableAt K H a t) :
    ∃ xs : List V, SqT K H a xs ∧ xs.length = t.length ∧ ∀ (i : Nat) (g : Guest), t[i]? = some g → ∃ p : Addr, xs[i]? = some (.ref p) ∧ SqT K H p [.int g.1, optV g.2] := by
  cases h with
  | @tup _ xs _ hs ha =>
    have hl := dpAll_len ha
    rw [List.length_map] at hl
    refine ⟨xs, hs, hl, fun i g hg => ?_⟩
    have hi : i < xs.length := by rw [hl]; exact (List.getElem?_eq_some_iff.mp hg).1
    obtain ⟨d, h1, h2⟩ := dpAll_get (v := xs[i]) ha (List.getElem?_eq_getElem hi)
    rw [List.getElem?_map, hg] at h1
    obtain rfl := (Option.some.inj h1).symm
    rw [List.getElem?_eq_getElem hi]
    generalize xs[i] = v at h2 ⊢
    cases h2 with
    | @tup p ys _ hp hq =>
      refine ⟨p, rfl, ?_⟩
      cases hq with
      | cons q1 q2 =>
        cases q2 with
        | cons q3 q4 =>
          cases q4
          cases q1
          obtain ⟨c, e⟩ := g
          cases e with
          | none => cases q3; exact hp
          | some m => cases q3; exact hp
theorem TableAt.mk {H : Hp} {a : Addr} {t : List Guest} {ps : List Addr} (h : SqT K H a (ps.map V.ref)) (hl : ps.length = t.length) (hg : ∀ (i : Nat) (g : Guest) (p : Addr), t[i]? = some g → ps[i]? = some p → SqT K H p [.int g.1, optV g.2]) : TableAt K H a t := by
  refine .tup h ?_
  clear h
  induction t generalizing ps with
  | nil =>
    cases ps with
    | nil => exact .nil
    | cons _ _ => simp at hl
  | cons g t ih =>
    cases ps with
    | nil => simp at hl
    | cons p ps =>
      refine .cons (.tup (hg 0 g p rfl rfl) ?_) (ih (by simpa using hl) fun i g' p' h1 h2 => hg (i + 1) g' p' (by simpa using h1) (by simpa using h2))
      obtain ⟨c, e⟩ := g
      cases e with
      | none => exact .cons (.int c) (.cons .non .nil)
      | some m => exact .cons (.int c) (.cons (.int m) .nil)
theorem TableAt.same {H H' : Hp} {a : Addr} {t : List Guest} (h : TableAt K H a t) (s : Same H H') : TableAt K H' a t := (dp_same s).1 h
end
end Lp
namespace Lp
open PySem PySem.Spec PyProof.Rows L2
section
variable {P : Program} {w : World} {K : PySem.W.Frag} {mg : Str → Option Value} {base : Heap}
/-! ### the looks ahead: none refuses what is right -/
def spNeedTable (K : PySem.W.Frag) : Sp := fun vs H Q _ => ∃ (a : Addr) (t : List Guest), vs = [.ref a] ∧ TableAt K H a t ∧ TabOk t ∧ ∀ H', Same H H' → Q .non H'
theorem sc_need_table : FnScope ["table"] ["table"] (defScope s_need_table) := ⟨rfl, rfl, rfl, by decide +kernel, rfl, by decide +kernel, by decide +kernel⟩
theorem ok_need_table {f : Addr} {fd : FuncData} (F : L2.Fun K "need_table" "need_table" s_need_table f fd) (B : Bls mg) (c_is_table : Cal P w K mg base 3 "is_table" (spTable K)) : FnOk P w K mg base L2.CX0 4 f fd ["table"] (spNeedTable K) := by
  refine F.ok sc_need_table (fun vs H Q E h => ?_) (fun cdv A outer s H vs Q E hr h => ?_)
  · obtain ⟨a, t, rfl, _⟩ := h
    rfl
  · obtain ⟨a, t, rfl, hd, ho, k⟩ := h
    refine ⟨_, (pss_one (ps_if (pt_not (pt_val (pe_g c_is_table hr (pa_cons (pv 0) pa_nil))))
      (pss_one ps_never)
      pss_nil)), ?_⟩
    refine ⟨_, rfl, _, _, rfl, hd, fun H' sm => ⟨_, rfl, ?_⟩⟩
    rw [tableD_ok ho]
    exact iteF (k H' sm)
end
end Lp
namespace Lp
open PySem PySem.Spec PyProof.Rows L2
section
variable {P : Program} {w : World} {K : PySem.W.Frag} {mg : Str → Option Value} {base : Heap}
def spNeedDish : Sp := fun vs H Q _ => ∃ i : Int, vs = [.int i] ∧ 0 ≤ i ∧ i ≤ 1000000000000000000 ∧ Q .non H
theorem sc_need_dish : FnScope ["dish"] ["dish"] (defScope s_need_dish) := ⟨rfl, rfl, rfl, by decide +kernel, rfl, by decide +kernel, by decide +kernel⟩
theorem ok_need_dish {f : Addr} {fd : FuncData} (F : L2.Fun K "need_dish" "need_dish" s_need_dish f fd) (B : Bls mg) (G : Greatest mg) (c_is_within : Cal P w K mg base 1 "is_within" (spWithin K)) : FnOk P w K mg base L2.CX0 2 f fd ["dish"] spNeedDish := by
  refine F.ok sc_need_dish (fun vs H Q E h => ?_) (fun cdv A outer s H vs Q E hr h => ?_)
  · obtain ⟨i, rfl, _⟩ := h
    rfl
  · obtain ⟨i, rfl, h0, h1, k⟩ := h
    obtain ⟨gv, h_GREATEST, r_GREATEST⟩ := G
    refine ⟨_, (pss_one (ps_if (pt_not (pt_val (pe_g c_is_within hr (pa_cons (pv 0) (pa_cons pe_int (pa_cons (pe_glob (by rfl) h_GREATEST r_GREATEST) pa_nil))))))
      (pss_one ps_never)
      pss_nil)), ?_⟩
    refine ⟨_, rfl, _, _, _, _, rfl, .int i, ⟨_, rfl, ?_⟩⟩
    show if (!(decide (0 ≤ i) && decide (i ≤ 1000000000000000000))) = true then _ else _
    rw [decide_eq_true h0, decide_eq_true h1]
    exact iteF k
def spNeedSeat (K : PySem.W.Frag) : Sp := fun vs H Q _ => ∃ (a : Addr) (xs : List V) (i : Nat), vs = [.ref a, .int i] ∧ SqT K H a xs ∧ i < xs.length ∧ Q .non H
theorem sc_need_seat : FnScope ["table", "seat"] ["table", "seat"] (defScope s_need_seat) := ⟨rfl, rfl, rfl, by decide +kernel, rfl, by decide +kernel, by decide +kernel⟩
theorem ok_need_seat {f : Addr} {fd : FuncData} (F : L2.Fun K "need_seat" "need_seat" s_need_seat f fd) (B : Bls mg) (c_is_within : Cal P w K mg base 1 "is_within" (spWithin K)) : FnOk P w K mg base L2.CX0 2 f fd ["table", "seat"] (spNeedSeat K) := by
  refine F.ok sc_need_seat (fun vs H Q E h => ?_) (fun cdv A outer s H vs Q E hr h => ?_)
  · obtain ⟨a, xs, i, rfl, _⟩ := h
    rfl
  · obtain ⟨a, xs, i, rfl, hs, hi, k⟩ := h
    refine ⟨_, (pss_one (ps_if (pt_not (pt_val (pe_g c_is_within hr (pa_cons (pv 1) (pa_cons pe_int (pa_cons (pe_op op_sub (pe_len B (pv 0)) pe_int) pa_nil))))))
      (pss_one ps_never)
      pss_nil)), ?_⟩
    refine ⟨_, rfl, _, rfl, a, xs, rfl, .inr hs, _, _, rfl, rfl, _, _, _, _, rfl, .int _, ⟨_, rfl, ?_⟩⟩
    show if (!(decide ((0 : Int) ≤ i) && decide ((i : Int) ≤ (xs.length : Int) - 1))) = true then _ else _
    rw [decide_eq_true (by omega), decide_eq_true (by omega)]
    exact iteF k
def spNeedAsked (K : PySem.W.Frag) : Sp := fun vs H Q _ => ∃ (a : Addr) (t : List Guest) (i : Int), vs = [.ref a, .int i] ∧ TableAt K H a t ∧ TabOk t ∧ 0 ≤ i ∧ i ≤ 1000000000000000000 ∧ ∀ H', Same H H' → Q .non H'
theorem sc_need_asked : FnScope ["table", "dish"] ["table", "dish"] (defScope s_need_asked) := ⟨rfl, rfl, rfl, by decide +kernel, rfl, by decide +kernel, by decide +kernel⟩
theorem ok_need_asked {f : Addr} {fd : FuncData} (F : L2.Fun K "need_asked" "need_asked" s_need_asked f fd) (B : Bls mg) (c_need_table : Cal P w K mg base 4 "need_table" (spNeedTable K)) (c_need_dish : Cal P w K mg base 2 "need_dish" spNeedDish) : FnOk P w K mg base L2.CX0 5 f fd ["table", "dish"] (spNeedAsked K) := by
  refine F.ok sc_need_asked (fun vs H Q E h => ?_) (fun cdv A outer s H vs Q E hr h => ?_)
  · obtain ⟨a, t, i, rfl, _⟩ := h
    rfl
  · obtain ⟨a, t, i, rfl, hd, ho, h0, h1, k⟩ := h
    refine ⟨_, (pss_cons (ps_expr (pe_g c_need_table hr (pa_cons (pv 0) pa_nil)))
      (pss_one (ps_expr (pe_g c_need_dish hr (pa_cons (pv 1) pa_nil))))), ?_⟩
    exact ⟨_, rfl, _, _, rfl, hd, ho, fun H' sm => ⟨_, rfl, _, rfl, h0, h1, k H' sm⟩⟩
end
end Lp
namespace Lp
open PySem PySem.Spec PyProof.Rows L2
/-! ### the fields of a Going -/
def gfs (a : Addr) (left seat : Int) (l : Addr) (taken visits : Int) : List (Str × V) :=
  [("table", .ref a), ("left", .int left), ("seat", .int seat), ("had", .ref l), ("taken", .int taken), ("visits", .int visits)]
theorem key_look {f : Str} {v : V} {r : List (Str × V)} : List.lookup f ((f, v) :: r) = some v := by simp [List.lookup]
theorem key_skip {f g : Str} {v : V} {r : List (Str × V)} (h : (f == g) = false) : List.lookup f ((g, v) :: r) = List.lookup f r := by simp [List.lookup, h]
section
variable {a l : Addr} {x s k v : Int}
theorem gf_table : (gfs a x s l k v).lookup ("table" : Str) = some (.ref a) := key_look
theorem gf_left : (gfs a x s l k v).lookup ("left" : Str) = some (.int x) := by
  unfold gfs; rw [key_skip (by decide +kernel)]; exact key_look
theorem gf_seat : (gfs a x s l k v).lookup ("seat" : Str) = some (.int s) := by
  unfold gfs; rw [key_skip (by decide +kernel), key_skip (by decide +kernel)]; exact key_look
theorem gf_had : (gfs a x s l k v).lookup ("had" : Str) = some (.ref l) := by
  unfold gfs; rw [key_skip (by decide +kernel), key_skip (by decide +kernel), key_skip (by decide +kernel)]; exact key_look
theorem gf_taken : (gfs a x s l k v).lookup ("taken" : Str) = some (.int k) := by
  unfold gfs; rw [key_skip (by decide +kernel), key_skip (by decide +kernel), key_skip (by decide +kernel), key_skip (by decide +kernel)]; exact key_look
theorem gf_visits : (gfs a x s l k v).lookup ("visits" : Str) = some (.int v) := by
  unfold gfs; rw [key_skip (by decide +kernel), key_skip (by decide +kernel), key_skip (by decide +kernel), key_skip (by decide +kernel), key_skip (by decide +kernel)]; exact key_look
theorem gf_no {m : Str} (h1 : (m == ("table" : Str)) = false) (h2 : (m == ("left" : Str)) = false) (h3 : (m == ("seat" : Str)) = false) (h4 : (m == ("had" : Str)) = false) (h5 : (m == ("taken" : Str)) = false) (h6 : (m == ("visits" : Str)) = false) :
    (gfs a x s l k v).lookup m = none := by
  unfold gfs; rw [key_skip h1, key_skip h2, key_skip h3, key_skip h4, key_skip h5, key_skip h6]; rfl
theorem put_at {f : Str} {y z : V} {r : List (Str × V)} : putF f y ((f, z) :: r) = (f, y) :: r := if_pos rfl
theorem put_on {f g : Str} {y z : V} {r : List (Str × V)} (h : ¬ g = f) : putF f y ((g, z) :: r) = (g, z) :: putF f y r := if_neg h
theorem gp_left (y : Int) : putF "left" (.int y) (gfs a x s l k v) = gfs a y s l k v := by
  unfold gfs; rw [put_on (by decide +kernel), put_at]
theorem gp_seat (y : Int) : putF "seat" (.int y) (gfs a x s l k v) = gfs a x y l k v := by
  unfold gfs; rw [put_on (by decide +kernel), put_on (by decide +kernel), put_at]
theorem gp_taken (y : Int) : putF "taken" (.int y) (gfs a x s l k v) = gfs a x s l y v := by
  unfold gfs; rw [put_on (by decide +kernel), put_on (by decide +kernel), put_on (by decide +kernel), put_on (by decide +kernel), put_at]
theorem gp_visits (y : Int) : putF "visits" (.int y) (gfs a x s l k v) = gfs a x s l k y := by
  unfold gfs; rw [put_on (by decide +kernel), put_on (by decide +kernel), put_on (by decide +kernel), put_on (by decide +kernel), put_on (by decide +kernel), put_at]
theorem gf_made : putF "visits" (.int v) (putF "taken" (.int k) (putF "had" (.ref l) (putF "seat" (.int s) (putF "left" (.int x) (putF "table" (.ref a) []))))) = gfs a x s l k v := by
  have e0 : ∀ (f : Str) (y : V), putF f y [] = [(f, y)] := fun _ _ => rfl
  have e1 : putF "left" (.int x) ([("table", V.ref a)] : List (Str × V)) = ([("table", V.ref a), ("left", V.int x)] : List (Str × V)) := by rw [put_on (by decide +kernel), e0]
  have e2 : putF "seat" (.int s) ([("table", V.ref a), ("left", V.int x)] : List (Str × V)) = ([("table", V.ref a), ("left", V.int x), ("seat", V.int s)] : List (Str × V)) := by rw [put_on (by decide +kernel), put_on (by decide +kernel), e0]
  have e3 : putF "had" (.ref l) ([("table", V.ref a), ("left", V.int x), ("seat", V.int s)] : List (Str × V)) = ([("table", V.ref a), ("left", V.int x), ("seat", V.int s), ("had", V.ref l)] : List (Str × V)) := by
    rw [put_on (by decide +kernel), put_on (by decide +kernel), put_on (by decide +kernel), e0]
  have e4 : putF "taken" (.int k) ([("table", V.ref a), ("left", V.int x), ("seat", V.int s), ("had", V.ref l)] : List (Str × V)) = ([("table", V.ref a), ("left", V.int x), ("seat", V.int s), ("had", V.ref l), ("taken", V.int k)] : List (Str × V)) := by
    rw [put_on (by decide +kernel), put_on (by decide +kernel), put_on (by decide +kernel), put_on (by decide +kernel), e0]
  have e5 : putF "visits" (.int v) ([("table", V.ref a), ("left", V.int x), ("seat", V.int s), ("had", V.ref l), ("taken", V.int k)] : List (Str × V)) = gfs a x s l k v := by
    rw [put_on (by decide +kernel), put_on (by decide +kernel), put_on (by decide +kernel), put_on (by decide +kernel), put_on (by decide +kernel), e0]
    rfl
  rw [e0, e1, e2, e3, e4, e5]
end
/-- what the top says of the class -/
structure GoT (K : PySem.W.Frag) (C : Addr) : Prop where
  cl : Cls K C
  nt : NoAttr K C "table"
  nl : NoAttr K C "left"
  ns : NoAttr K C "seat"
  nh : NoAttr K C "had"
  nk : NoAttr K C "taken"
  nv : NoAttr K C "visits"
/-- behind the heap H0 a Going stands at p over the table at a, its list at l -/
structure GoAt (C : Addr) (H0 H : Hp) (p a dx l : Addr) (left seat : Int) (hs : List Int) (taken visits : Int) : Prop where
  same : Same H0 H
  newp : H0 p = none
  newl : H0 l = none
  ob : H p = some (.ins C dx (gfs a left seat l taken visits))
  ls : H l = some (.lst (hs.map V.int))
section
variable {C : Addr} {H0 H H' : Hp} {p a dx l : Addr} {left seat : Int} {hs : List Int} {taken visits : Int}
theorem GoAt.ne (G : GoAt C H0 H p a dx l left seat hs taken visits) : p ≠ l := ne_of G.ob G.ls (by intro z; cases z)
theorem GoAt.more (G : GoAt C H0 H p a dx l left seat hs taken visits) (s : Same H H') : GoAt C H0 H' p a dx l left seat hs taken visits :=
  ⟨G.same.trans s, G.newp, G.newl, s _ _ G.ob, s _ _ G.ls⟩
theorem upd_kept {p : Addr} {o : HO} (s : Same H0 H) (n : H0 p = none) : Same H0 (upd H p o) := fun b u e => by
  have hb : b ≠ p := fun z => by rw [z, n] at e; cases e
  rw [upd_ne hb]
  exact s b u e
/-- the object's fields change -/
theorem GoAt.fld (G : GoAt C H0 H p a dx l left seat hs taken visits) (left' seat' taken' visits' : Int) : GoAt C H0 (upd H p (.ins C dx (gfs a left' seat' l taken' visits'))) p a dx l left' seat' hs taken' visits' :=
  ⟨upd_kept G.same G.newp, G.newp, G.newl, upd_same, by rw [upd_ne (Ne.symm G.ne)]; exact G.ls⟩
theorem GoAt.setLeft (G : GoAt C H0 H p a dx l left seat hs taken visits) (y : Int) : GoAt C H0 (upd H p (.ins C dx (putF "left" (.int y) (gfs a left seat l taken visits)))) p a dx l y seat hs taken visits := by
  rw [gp_left]; exact G.fld y seat taken visits
theorem GoAt.setSeat (G : GoAt C H0 H p a dx l left seat hs taken visits) (y : Int) : GoAt C H0 (upd H p (.ins C dx (putF "seat" (.int y) (gfs a left seat l taken visits)))) p a dx l left y hs taken visits := by
  rw [gp_seat]; exact G.fld left y taken visits
theorem GoAt.setTaken (G : GoAt C H0 H p a dx l left seat hs taken visits) (y : Int) : GoAt C H0 (upd H p (.ins C dx (putF "taken" (.int y) (gfs a left seat l taken visits)))) p a dx l left seat hs y visits := by
  rw [gp_taken]; exact G.fld left seat y visits
theorem GoAt.setVisits (G : GoAt C H0 H p a dx l left seat hs taken visits) (y : Int) : GoAt C H0 (upd H p (.ins C dx (putF "visits" (.int y) (gfs a left seat l taken visits)))) p a dx l left seat hs taken y := by
  rw [gp_visits]; exact G.fld left seat taken y
theorem GoAt.had (G : GoAt C H0 H p a dx l left seat hs taken visits) (hs' : List Int) : GoAt C H0 (upd H l (.lst (hs'.map V.int))) p a dx l left seat hs' taken visits :=
  ⟨upd_kept G.same G.newl, G.newp, G.newl, by rw [upd_ne G.ne]; exact G.ob, upd_same⟩
end
theorem map_set (l : List Int) (i : Nat) (v : Int) : (l.map V.int).set i (V.int v) = (l.set i v).map V.int := (List.map_set).symm
theorem GoAt.setHad {C : Addr} {H0 H : Hp} {p a dx l : Addr} {left seat : Int} {hs : List Int} {taken visits : Int} (G : GoAt C H0 H p a dx l left seat hs taken visits) (i : Nat) (v : Int) : GoAt C H0 (upd H l (.lst ((hs.map V.int).set i (.int v)))) p a dx l left seat (hs.set i v) taken visits := by
  rw [map_set]; exact G.had _
theorem getD_of {t : List Guest} {i : Nat} {g : Guest} (h : t[i]? = some g) : D.gs t i = g := by
  show t.getD i (0, none) = g
  rw [List.getD_eq_getElem?_getD, h]
  rfl
theorem get_of {t : List Guest} {i : Nat} (h : i < t.length) : t[i]? = some (D.gs t i) := by
  show t[i]? = some (t.getD i (0, none))
  rw [List.getD_eq_getElem?_getD, List.getElem?_eq_getElem h]
  rfl
theorem at_int {l : List Int} {i : Nat} {v : Int} (h : l[i]? = some v) : atI (l.map V.int) (i : Int) = some (V.int v) := atI_nat (map_at h)
theorem ixN_nat {n i : Nat} (h : i < n) : ixN n (i : Int) = some i := by
  unfold ixN
  rw [if_pos (by omega), if_pos (by omega)]
  simp
section
variable {P : Program} {w : World} {K : PySem.W.Frag} {mg : Str → Option Value} {base : Heap} {C : Addr}
/-! ### would_take -/
def spWould (K : PySem.W.Frag) (C : Addr) : Sp := fun vs H Q _ => ∃ (H0 : Hp) (p a dx l : Addr) (t : List Guest) (s : D.S) (se tk vi : Int) (i : Nat), vs = [.ref p, .int i] ∧ GoAt C H0 H p a dx l s.left se (D.hadL t.length s.had) tk vi ∧
  TableAt K H0 a t ∧ i < t.length ∧ Q (.bl (decide (D.wants (D.gs t) s i))) H
theorem sc_Going_would_take : FnScope ["self", "seat", "courtesy", "enough"] ["self", "seat"] (defScope s_Going_would_take) := ⟨rfl, rfl, rfl, by decide +kernel, rfl, by decide +kernel, by decide +kernel⟩
theorem ok_would {f : Addr} {fd : FuncData} (F : L2.Fun K "would_take" "Going.would_take" s_Going_would_take f fd) (T : GoT K C) : FnOk P w K mg base L2.CX0 1 f fd ["self", "seat"] (spWould K C) := by
  refine F.ok sc_Going_would_take (fun vs H Q E h => ?_) (fun cdv A outer s H vs Q E hr h => ?_)
  · obtain ⟨H0, p, a, dx, l, t, s, se, tk, vi, i, rfl, _⟩ := h
    rfl
  · obtain ⟨H0, p, a, dx, l, t, s, se, tk, vi, i, rfl, G, tb, hi, k⟩ := h
    refine ⟨_, (pss_cons (ps_asg (pe_ix ix_tup (pe_fld (pv 0) rfl) (pv 1) (fun _ _ => rfl)) (pg_tup (by rfl) (pgs_cons (pg_name (i := 2) sc_Going_would_take.nd rfl (Or.inl rfl)) (pgs_cons (pg_name (i := 3) sc_Going_would_take.nd rfl (Or.inl rfl)) pgs_nil))))
      (pss_one (ps_ret (pe_and (pe_cmpR op_gt (pe_fld (pv 0) rfl) (pv 2) (nomark _)) (pe_one (pe_or (pe_cmpR op_isN (pv 3) pe_non (nomark _)) (pe_one (pe_cmpR op_lt (pe_ix ix_list (pe_fld (pv 0) rfl) (pv 1) (fun _ _ => rfl)) (pv 3) (nomark _))))))))), ?_⟩
    obtain ⟨xs, hx, hl, hg⟩ := (tb.same G.same).open
    obtain ⟨q, e1, hq⟩ := hg i _ (get_of hi)
    refine ⟨_, rfl, p, C, dx, _, _, rfl, G.ob, T.cl, T.nt, gf_table, _, rfl, a, xs, _, _, rfl, rfl, hx, atI_nat e1, ?_⟩
    refine ⟨q, _, rfl, hq, rfl, _, _, rfl, _, _, rfl, rfl, ?_⟩
    refine ⟨_, rfl, p, C, dx, _, _, rfl, G.ob, T.cl, T.nl, gf_left, _, rfl, _, _, rfl, rfl, _, rfl, ?_⟩
    refine ite2 (fun c1 => ?_) (fun c1 => ?_)
    · have l1 := of_decide_eq_true c1
      refine ⟨_, rfl, rfl, _, rfl, ?_⟩
      cases e : (D.gs t i).2 with
      | none =>
        refine iteT ?_
        have w : D.wants (D.gs t) s i := ⟨l1, fun m em => by rw [e] at em; cases em⟩
        rw [decide_eq_true w] at k
        exact k
      | some m =>
        refine iteF ?_
        refine ⟨_, rfl, p, C, dx, _, _, rfl, G.ob, T.cl, T.nh, gf_had, _, rfl, l, _, _, _, rfl, rfl, SqL.of G.ls, at_int (D.hadL_get s.had hi), _, rfl, _, _, rfl, rfl, ?_⟩
        have ew : decide (D.wants (D.gs t) s i) = decide (s.had i < m) := by
          rw [decide_eq_decide]
          exact ⟨fun w => w.2 m e, fun h => ⟨l1, fun m' em => by rw [e] at em; cases em; exact h⟩⟩
        rw [ew] at k
        exact k
    · have w : ¬ D.wants (D.gs t) s i := fun w => c1 (decide_eq_true w.1)
      rw [decide_eq_false w] at k
      exact k
end
end Lp
namespace Lp
open PySem PySem.Spec PyProof.Rows L2
theorem seat_next (x n : Nat) : (((x % n : Nat) : Int) + 1) % (n : Int) = (((x + 1) % n : Nat) : Int) := by
  have e : (((x % n + 1) % n : Nat) : Int) = ((x % n + 1 : Nat) : Int) % (n : Int) := Int.natCast_emod _ _
  rw [← Nat.mod_add_mod x n 1, e]
  rfl
/-- behind k visits of the dish d over the table t, begun at seat f -/
def GoRun (C : Addr) (H0 H : Hp) (p a dx l : Addr) (t : List Guest) (f : Nat) (d : Int) (k : Nat) : Prop :=
  GoAt C H0 H p a dx l (D.run (D.gs t) t.length f d k).left (((f + k) % t.length : Nat) : Int) (D.hadL t.length (D.run (D.gs t) t.length f d k).had) (d - (D.run (D.gs t) t.length f d k).left) (k : Int)
theorem GoRun.cast {C : Addr} {H0 H : Hp} {p a dx l : Addr} {t : List Guest} {f : Nat} {d : Int} {k : Nat} {x s v y : Int} {hs : List Int} (G : GoAt C H0 H p a dx l x s hs v y)
    (e1 : x = (D.run (D.gs t) t.length f d k).left) (e2 : s = (((f + k) % t.length : Nat) : Int)) (e3 : hs = D.hadL t.length (D.run (D.gs t) t.length f d k).had) (e4 : v = d - (D.run (D.gs t) t.length f d k).left) (e5 : y = (k : Int)) :
    GoRun C H0 H p a dx l t f d k := by
  subst e1 e2 e3 e4 e5
  exact G
section
variable {P : Program} {w : World} {K : PySem.W.Frag} {mg : Str → Option Value} {base : Heap} {C : Addr}
/-! ### visit -/
def spVisit (K : PySem.W.Frag) (C : Addr) : Sp := fun vs H Q _ => ∃ (H0 : Hp) (p a dx l : Addr) (t : List Guest) (f : Nat) (d : Int) (k : Nat), vs = [.ref p] ∧ GoRun C H0 H p a dx l t f d k ∧ TableAt K H0 a t ∧ TabOk t ∧
  ∀ H', GoRun C H0 H' p a dx l t f d (k + 1) → (∀ b o, H b = some o → b ≠ p → b ≠ l → H' b = some o) → Q (.bl (decide (D.wants (D.gs t) (D.run (D.gs t) t.length f d k) ((f + k) % t.length)))) H'
theorem small6 {a l : Addr} {x s k v : Int} : (gfs a x s l k v).length < 1000 := by show 6 < 1000; decide
theorem sc_Going_visit : FnScope ["self", "seat", "takes"] ["self"] (defScope s_Going_visit) := ⟨rfl, rfl, rfl, by decide +kernel, rfl, by decide +kernel, by decide +kernel⟩
theorem ok_visit {f : Addr} {fd : FuncData} (F : L2.Fun K "visit" "Going.visit" s_Going_visit f fd) (T : GoT K C) (B : Bls mg) (m_would_take : Met P w K mg base 1 C "would_take" (spWould K C)) : FnOk P w K mg base L2.CX0 2 f fd ["self"] (spVisit K C) := by
  refine F.ok sc_Going_visit (fun vs H Q E h => ?_) (fun cdv A outer s H vs Q E hr h => ?_)
  · obtain ⟨H0, p, a, dx, l, t, f, d, k, rfl, _⟩ := h
    rfl
  · obtain ⟨H0, p, a, dx, l, t, fs, d, n, rfl, G, tb, ok, k⟩ := h
    have hn : 0 < t.length := ok.1
    have hi : (fs + n) % t.length < t.length := Nat.mod_lt _ hn
    refine ⟨_, (pss_cons (ps_par (i := 1) (j := 2) (by rfl) sc_Going_visit.nd rfl rfl (by decide) rfl rfl (pa_cons (pe_fld (pv 0) rfl) (pa_cons (pe_me m_would_take hr (pv 0) (pa_cons (pe_fld (pv 0) rfl) pa_nil)) pa_nil)) (by rfl))
      (pss_cons (ps_if (pt_val (pv 2))
      (pss_cons (ps_augS (pe_fld (pv 0) rfl) (pv 1) get_list pe_int ip_add set_list)
      (pss_cons (ps_fldaug (pv 0) pe_int in_sub)
      (pss_one (ps_fldaug (pv 0) pe_int in_add))))
      pss_nil)
      (pss_cons (ps_fld (pv 0) (pe_op op_mod (pe_op op_add (pv 1) pe_int) (pe_len B (pe_fld (pv 0) rfl))) rfl)
      (pss_cons (ps_fldaug (pv 0) pe_int in_add)
      (pss_one (ps_ret (pv 2))))))), ?_⟩
    refine ⟨_, rfl, p, C, dx, _, _, rfl, G.ob, T.cl, T.ns, gf_seat, _, rfl, p, dx, _, rfl, G.ob, gf_no (by decide +kernel) (by decide +kernel) (by decide +kernel) (by decide +kernel) (by decide +kernel) (by decide +kernel), ?_⟩
    refine ⟨_, rfl, p, C, dx, _, _, rfl, G.ob, T.cl, T.ns, gf_seat, ?_⟩
    refine ⟨H0, p, a, dx, l, t, _, _, _, _, _, rfl, G, tb, hi, _, _, rfl, ?_⟩
    refine ⟨_, rfl, _, rfl, ?_⟩
    have step : D.run (D.gs t) t.length fs d (n + 1) = D.vis (D.gs t) (D.run (D.gs t) t.length fs d n) ((fs + n) % t.length) := rfl
    by_cases wt : D.wants (D.gs t) (D.run (D.gs t) t.length fs d n) ((fs + n) % t.length)
    · rw [decide_eq_true wt] at k ⊢
      refine iteT ?_
      refine ⟨_, rfl, p, C, dx, _, _, rfl, G.ob, T.cl, T.nh, gf_had, _, rfl, l, _, _, _, rfl, rfl, SqL.of G.ls, Int.natCast_nonneg _, map_at (D.hadL_get _ hi), _, _, rfl, rfl, l, _, _, _, rfl, rfl, G.ls, ixN_nat (by rw [List.length_map, D.hadL_len]; exact hi), ?_⟩
      have G1 := G.setHad ((fs + n) % t.length) ((D.run (D.gs t) t.length fs d n).had ((fs + n) % t.length) + 1)
      refine ⟨_, rfl, p, C, dx, _, _, rfl, G1.ob, T.cl, T.nl, gf_left, _, _, rfl, rfl, dx, _, G1.ob, small6, ?_⟩
      have G2 := G1.setLeft ((D.run (D.gs t) t.length fs d n).left - 1)
      refine ⟨_, rfl, p, C, dx, _, _, rfl, G2.ob, T.cl, T.nk, gf_taken, _, _, rfl, rfl, dx, _, G2.ob, small6, ?_⟩
      have G3 := G2.setTaken (d - (D.run (D.gs t) t.length fs d n).left + 1)
      obtain ⟨xs, hx, hl, _⟩ := (tb.same G3.same).open
      refine ⟨_, rfl, _, _, rfl, rfl, _, rfl, p, C, dx, _, _, rfl, G3.ob, T.cl, T.nt, gf_table, a, xs, rfl, .inr hx, _, _, rfl, rfl, (by rw [hl]; omega), _, rfl, p, C, dx, _, rfl, G3.ob, T.cl, T.ns, small6, ?_⟩
      have G4 := G3.setSeat (((((fs + n) % t.length : Nat) : Int) + 1) % (xs.length : Int))
      refine ⟨_, rfl, p, C, dx, _, _, rfl, G4.ob, T.cl, T.nv, gf_visits, _, _, rfl, rfl, dx, _, G4.ob, small6, ?_⟩
      have G5 := G4.setVisits ((n : Int) + 1)
      refine ⟨_, rfl, k _ (GoRun.cast G5 ?_ ?_ ?_ ?_ rfl) fun b o e h1 h2 => ?_⟩
      · rw [step, D.vis_yes wt]
      · rw [hl, ← Nat.add_assoc]
        exact seat_next _ _
      · rw [step, D.vis_yes wt, D.hadL_bump _ hi]
      · rw [step, D.vis_yes wt]
        show _ = d - ((D.run (D.gs t) t.length fs d n).left - 1)
        omega
      · rw [upd_ne h1, upd_ne h1, upd_ne h1, upd_ne h1, upd_ne h2]
        exact e
    · rw [decide_eq_false wt] at k ⊢
      refine iteF ?_
      obtain ⟨xs, hx, hl, _⟩ := (tb.same G.same).open
      refine ⟨_, rfl, _, _, rfl, rfl, _, rfl, p, C, dx, _, _, rfl, G.ob, T.cl, T.nt, gf_table, a, xs, rfl, .inr hx, _, _, rfl, rfl, (by rw [hl]; omega), _, rfl, p, C, dx, _, rfl, G.ob, T.cl, T.ns, small6, ?_⟩
      have G4 := G.setSeat (((((fs + n) % t.length : Nat) : Int) + 1) % (xs.length : Int))
      refine ⟨_, rfl, p, C, dx, _, _, rfl, G4.ob, T.cl, T.nv, gf_visits, _, _, rfl, rfl, dx, _, G4.ob, small6, ?_⟩
      have G5 := G4.setVisits ((n : Int) + 1)
      refine ⟨_, rfl, k _ (GoRun.cast G5 ?_ ?_ ?_ ?_ rfl) fun b o e h1 h2 => ?_⟩
      · rw [step, D.vis_no wt]
      · rw [hl, ← Nat.add_assoc]
        exact seat_next _ _
      · rw [step, D.vis_no wt]
      · rw [step, D.vis_no wt]
      · rw [upd_ne h1, upd_ne h1]
        exact e
end
end Lp
namespace Lp
open PySem PySem.Spec PyProof.Rows L2
def seatsV (ls : List Nat) : List V := (ls.map fun i : Nat => (i : Int)).map V.int
theorem seatsV_len (ls : List Nat) : (seatsV ls).length = ls.length := by simp [seatsV]
theorem seatsV_get {ls : List Nat} {j : Nat} {y : V} (h : (seatsV ls)[j]? = some y) : ∃ i, ls[j]? = some i ∧ y = .int (i : Int) := by
  obtain ⟨n, h1, h2⟩ := ints_get h
  rw [List.getElem?_map] at h1
  cases e : ls[j]? with
  | none => rw [e] at h1; cases h1
  | some i =>
    rw [e] at h1
    exact ⟨i, rfl, by rw [h2, ← Option.some.inj h1]⟩
section
variable {P : Program} {w : World} {K : PySem.W.Frag} {mg : Str → Option Value} {base : Heap} {C : Addr}
/-! ### rounds -/
def spRounds (K : PySem.W.Frag) (C : Addr) : Sp := fun vs H Q _ => ∃ (H0 : Hp) (p a dx l b : Addr) (t : List Guest) (s : D.S) (se tk vi : Int) (ls : List Nat) (bd : Option Int), vs = [.ref p, .ref b, optV bd] ∧ GoAt C H0 H p a dx l s.left se (D.hadL t.length s.had) tk vi ∧
  TableAt K H0 a t ∧ SqL K H b (seatsV ls) ∧ ls ≠ [] ∧ ls.length ≤ 8 ∧ (∀ i ∈ ls, i < t.length ∧ D.wants (D.gs t) s i) ∧ (∀ b0, bd = some b0 → tk ≤ b0) ∧
  ∀ (m : Nat) (H' : Hp), Same H H' → (∀ i ∈ ls, (D.gs t i).1 ≤ s.left - m * ls.length) → (∀ i ∈ ls, ∀ e, (D.gs t i).2 = some e → s.had i + m ≤ e) → (∀ b0, bd = some b0 → (m : Int) * ls.length ≤ b0 - tk) → Q (.int m) H'
theorem sc_Going_rounds : FnScope ["self", "some", "bound", "many", "found", "seat"] ["self", "some", "bound"] (defScope s_Going_rounds) := ⟨rfl, rfl, rfl, by decide +kernel, rfl, by decide +kernel, by decide +kernel⟩
theorem ok_rounds {f : Addr} {fd : FuncData} (F : L2.Fun K "rounds" "Going.rounds" s_Going_rounds f fd) (T : GoT K C) (B : Bls mg) : FnOk P w K mg base L2.CX0 1 f fd ["self", "some", "bound"] (spRounds K C) := by
  refine F.ok sc_Going_rounds (fun vs H Q E h => ?_) (fun cdv A outer s H vs Q E hr h => ?_)
  · obtain ⟨H0, p, a, dx, l, b, t, s, se, tk, vi, ls, bd, rfl, _⟩ := h
    rfl
  · obtain ⟨H0, p, a, dx, l, b, t, s, se, tk, vi, ls, bd, rfl, G, tb, hb, hne, h8, hw, hbd, k⟩ := h
    refine ⟨_, (pss_cons (ps_set (i := 3) sc_Going_rounds.nd rfl (Or.inl rfl) (pe_len B (pv 1)))
      (pss_cons (ps_set (i := 4) sc_Going_rounds.nd rfl (Or.inl rfl) (pe_lst (pa_cons (pe_op op_fdiv (pe_op op_sub (pe_fld (pv 0) rfl) (pe_callB (cr_max rfl) (by rfl) B.max (by decide +kernel) (pa_cons (pe_lc (own := [("seat", 5)]) (g := gName 5) (te := tOp (rIxT K) (tOp (rIxT K) (tFld K (tVar 0) "table") (tVar 5)) (tC (.int 0)))  (tt := tYes) (by rfl) sc_Going_rounds.nd (pi_list (pv 1)) (blkOk_by (own := [("seat", 5)]) (N := ["self", "some", "bound", "many", "found", "seat"]) (sc := defScope s_Going_rounds) (by decide +kernel)) (fun _ _ _ _ _ => by exact (pg_name (i := 5) sc_Going_rounds.nd rfl (Or.inl rfl))) (fun _ _ _ _ _ => by exact pts_nil) (fun _ _ _ _ _ => by exact (pe_ix ix_tup (pe_ix ix_tup (pe_fld (pv 0) rfl) (pv 5) (fun _ _ => rfl)) pe_int (fun _ _ => rfl)))) pa_nil))) (pv 3)) pa_nil)))
      (pss_cons (ps_for PassesOwn.never rfl (pi_list (pv 1)) (pg_name (i := 5) sc_Going_rounds.nd rfl (Or.inl rfl))
      (pss_one (ps_if (pt_cmpR op_notN (pe_ix ix_tup (pe_ix ix_tup (pe_fld (pv 0) rfl) (pv 5) (fun _ _ => rfl)) pe_int (fun _ _ => rfl)) pe_non (nomark _))
      (pss_one (ps_expr (pe_bm PySem.F.plainAttrs_list PySem.F.slot_list_append PySem.F.type_list_append mt_append (pv 4) (pa_cons (pe_op op_sub (pe_ix ix_tup (pe_ix ix_tup (pe_fld (pv 0) rfl) (pv 5) (fun _ _ => rfl)) pe_int (fun _ _ => rfl)) (pe_ix ix_list (pe_fld (pv 0) rfl) (pv 5) (fun _ _ => rfl))) pa_nil))))
      pss_nil)))
      (pss_cons (ps_if (pt_cmpR op_notN (pv 2) pe_non (nomark _))
      (pss_one (ps_expr (pe_bm PySem.F.plainAttrs_list PySem.F.slot_list_append PySem.F.type_list_append mt_append (pv 4) (pa_cons (pe_op op_fdiv (pe_op op_sub (pv 2) (pe_fld (pv 0) rfl)) (pv 3)) pa_nil))))
      pss_nil)
      (pss_one (ps_ret (pe_callB (cr_min rfl) (by rfl) B.min (by decide +kernel) (pa_cons (pv 4) pa_nil)))))))), ?_⟩
    have hpos : 1 ≤ ls.length := by
      cases ls with
      | nil => exact absurd rfl hne
      | cons _ _ => exact Nat.succ_le_succ (Nat.zero_le _)
    -- many = len(some)
    refine ⟨_, rfl, b, _, rfl, .inl hb, ?_⟩
    -- found = [(left - max([..])) // many]
    refine ⟨_, rfl, p, C, dx, _, _, rfl, G.ob, T.cl, T.nl, gf_left, ?_⟩
    refine ⟨_, rfl, b, rfl, ⟨_, hb⟩, fun D0 hD0 => ?_⟩
    refine lc_list (K := K) (a := b) (xs := seatsV ls) (fun j H' => Same H H' ∧ H' D0 = some (.lst (((ls.take j).map fun i => (D.gs t i).1).map V.int))) ⟨same_upd hD0, upd_same⟩ (fun j H' _ h => h.1.seq hb) ?_ ?_
    · rintro j y H' hj ⟨sm, hl⟩
      obtain ⟨i, hi, rfl⟩ := seatsV_get hj
      have mi : i ∈ ls := List.mem_of_getElem? hi
      obtain ⟨hin, _⟩ := hw i mi
      have G1 := G.more sm
      obtain ⟨xs, hx, hlx, hg⟩ := (tb.same G1.same).open
      obtain ⟨q, e1, hq⟩ := hg i _ (get_of hin)
      refine ⟨rfl, ?_⟩
      refine ⟨_, rfl, p, C, dx, _, _, rfl, G1.ob, T.cl, T.nt, gf_table, _, rfl, a, xs, _, _, rfl, rfl, hx, atI_nat e1, q, _, _, _, rfl, rfl, hq, rfl, _, hl, ?_, fun c o e => ?_, ?_⟩
      · rw [List.length_map, List.length_map, List.length_take]
        exact small1000 (by omega)
      · rw [upd_ne (ne_of_none e hD0)]
        exact sm c o e
      · rw [upd_same, List.take_add_one, hi]
        simp
    rintro H1 ⟨sm1, hl1⟩
    rw [seatsV_len, List.take_length] at hl1
    refine ⟨D0, _, rfl, SqL.of hl1, by rw [List.length_map]; omega, fun M hM hle => ?_⟩
    have leM : ∀ i ∈ ls, (D.gs t i).1 ≤ M := fun i hi => hle _ (List.mem_map.mpr ⟨i, hi, rfl⟩)
    have M0 : M < s.left := by
      obtain ⟨i, hi, e⟩ := List.mem_map.mp hM
      rw [← e]
      exact (hw i hi).2.1
    refine ⟨_, _, rfl, rfl, _, rfl, _, _, rfl, rfl, ⟨by rw [seatsV_len]; omega, by rw [seatsV_len]; omega⟩, by show 1 ≤ sizeLine; decide, fun q hq => ?_⟩
    rw [seatsV_len]
    have x0 : 0 ≤ (s.left - M) / (ls.length : Int) := Int.ediv_nonneg (by omega) (by omega)
    -- for seat in some
    have hb1 : SqL K (upd H1 q (.lst [.int ((s.left - M) / (ls.length : Int))])) b (seatsV ls) := (same_upd hq).seq (sm1.seq hb)
    refine ⟨_, rfl, b, rfl, ⟨_, hb1⟩, for_list (K := K) (a := b) (xs := seatsV ls) (fun j σ H' => ∃ (v : Option V) (ns : List Int), σ = [some (.ref p), some (.ref b), some (optV bd), some (.int (ls.length : Int)), some (.ref q), v] ∧
      (∀ c o, H1 c = some o → H' c = some o) ∧ H' q = some (.lst (ns.map V.int)) ∧ (s.left - M) / (ls.length : Int) ∈ ns ∧ (∀ y ∈ ns, 0 ≤ y) ∧ ns.length ≤ j + 1 ∧ ∀ i ∈ ls.take j, ∀ e, (D.gs t i).2 = some e → e - s.had i ∈ ns)
      ⟨none, [(s.left - M) / (ls.length : Int)], rfl, same_upd hq, upd_same, by simp, by simpa using x0, by simp, by simp⟩ (fun j σ H' _ ⟨_, _, _, h, _⟩ => Same.seq h (sm1.seq hb)) ?_ ?_⟩
    · rintro j y σ H' hj ⟨v, ns, rfl, sm2, hq2, hx, hpos2, hlen, hall⟩
      obtain ⟨i, hi, rfl⟩ := seatsV_get hj
      have mi : i ∈ ls := List.mem_of_getElem? hi
      obtain ⟨hin, wt⟩ := hw i mi
      have jl : j < ls.length := (List.getElem?_eq_some_iff.mp hi).1
      have G1 := (G.more sm1).more sm2
      obtain ⟨xs, hx1, hlx, hg⟩ := (tb.same G1.same).open
      obtain ⟨z, e1, hz⟩ := hg i _ (get_of hin)
      refine ⟨_, rfl, p, C, dx, _, _, rfl, G1.ob, T.cl, T.nt, gf_table, _, rfl, a, xs, _, _, rfl, rfl, hx1, atI_nat e1, z, _, _, _, rfl, rfl, hz, rfl, rfl, _, rfl, ?_⟩
      cases ee : (D.gs t i).2 with
      | none =>
        refine iteF ⟨_, ns, rfl, sm2, hq2, hx, hpos2, by omega, fun i' hi' e he => ?_⟩
        rw [List.take_add_one, hi, List.mem_append] at hi'
        rcases hi' with hi' | hi'
        · exact hall i' hi' e he
        · have : i' = i := by simpa using hi'
          rw [this, ee] at he
          cases he
      | some m =>
        rw [ee] at hz
        refine iteT ?_
        refine ⟨_, rfl, .inl ⟨rfl, _, SqL.of hq2⟩, ?_⟩
        refine ⟨_, rfl, p, C, dx, _, _, rfl, G1.ob, T.cl, T.nt, gf_table, _, rfl, a, xs, _, _, rfl, rfl, hx1, atI_nat e1, z, _, _, _, rfl, rfl, hz, rfl, ?_⟩
        refine ⟨_, rfl, p, C, dx, _, _, rfl, G1.ob, T.cl, T.nh, gf_had, _, rfl, l, _, _, _, rfl, rfl, SqL.of G1.ls, at_int (D.hadL_get s.had hin), _, _, rfl, rfl, q, _, _, rfl, rfl, hq2, by rw [List.length_map]; exact small1000 (by omega), ?_⟩
        refine ⟨_, ns ++ [m - s.had i], rfl, fun c o e => ?_, ?_, by simp [hx], fun y hy => ?_, by rw [List.length_append, List.length_singleton]; omega, fun i' hi' e he => ?_⟩
        · rw [upd_ne (ne_of_none e hq)]
          exact sm2 c o e
        · rw [upd_same, List.map_append]
          rfl
        · rcases List.mem_append.mp hy with hy | hy
          · exact hpos2 y hy
          · have : y = m - s.had i := by simpa using hy
            have := wt.2 m ee
            omega
        · rw [List.take_add_one, hi, List.mem_append] at hi'
          rcases hi' with hi' | hi'
          · exact List.mem_append_left _ (hall i' hi' e he)
          · have e2 : i' = i := by simpa using hi'
            rw [e2, ee] at he
            cases he
            rw [e2]
            exact List.mem_append_right _ (by simp)
    · rintro σ H' ⟨v, ns, rfl, sm2, hq2, hx, hpos2, hlen, hall⟩
      rw [seatsV_len] at hlen
      rw [seatsV_len, List.take_length] at hall
      have nsne : 0 < ns.length := by
        cases ns with
        | nil => cases hx
        | cons _ _ => exact Nat.succ_pos _
      -- what a least one of all is
      have done : ∀ (m : Int) (ns' : List Int) (H2 : Hp), m ∈ ns' → (∀ y ∈ ns', m ≤ y) → (∀ y ∈ ns', 0 ≤ y) → (∀ y ∈ ns, y ∈ ns') → Same H H2 → (∀ b0, bd = some b0 → m * ls.length ≤ b0 - tk) → Q (.int m) H2 := fun m ns' H2 hm hmin h0 hsub hs hb0 => by
        have hm0 := h0 m hm
        obtain ⟨r, rfl⟩ : ∃ r : Nat, m = (r : Int) := ⟨m.toNat, by omega⟩
        refine k r H2 hs (fun i hi => ?_) (fun i hi e he => ?_) hb0
        · have h1 := hmin _ (hsub _ hx)
          have h2 : (r : Int) * ls.length ≤ (s.left - M) / (ls.length : Int) * ls.length := Int.mul_le_mul_of_nonneg_right h1 (by omega)
          have h3 := Int.ediv_mul_le (s.left - M) (b := (ls.length : Int)) (by omega)
          have h4 := leM i hi
          omega
        · have h1 := hmin _ (hsub _ (hall i hi e he))
          omega
      have G1 := (G.more sm1).more sm2
      have sme : Same H H' := sm1.trans sm2
      refine ⟨_, rfl, rfl, _, rfl, ?_⟩
      cases bd with
      | none =>
        refine iteF ?_
        exact ⟨_, rfl, q, ns, rfl, SqL.of hq2, nsne, fun m hm hmin => done m ns H' hm hmin hpos2 (fun _ h => h) sme fun _ h => by cases h⟩
      | some b0 =>
        refine iteT ?_
        have hb0 := hbd b0 rfl
        refine ⟨_, rfl, .inl ⟨rfl, _, SqL.of hq2⟩, ?_⟩
        refine ⟨_, rfl, _, rfl, p, C, dx, _, _, rfl, G1.ob, T.cl, T.nk, gf_taken, _, _, rfl, rfl, _, rfl, _, _, rfl, rfl, ⟨by omega, by omega⟩, q, _, _, rfl, rfl, hq2, by rw [List.length_map]; exact small1000 (by omega), ?_⟩
        have y0 : 0 ≤ (b0 - tk) / (ls.length : Int) := Int.ediv_nonneg (by omega) (by omega)
        refine ⟨_, rfl, q, ns ++ [(b0 - tk) / (ls.length : Int)], rfl, SqL.of (by rw [upd_same, List.map_append]; rfl), by rw [List.length_append]; omega, fun m hm hmin => ?_⟩
        refine done m _ _ hm hmin (fun y hy => ?_) (fun _ h => List.mem_append_left _ h) (fun c o e => ?_) fun b1 e1 => ?_
        · rcases List.mem_append.mp hy with hy | hy
          · exact hpos2 y hy
          · have : y = (b0 - tk) / (ls.length : Int) := by simpa using hy
            omega
        · rw [upd_ne (ne_of_none (sm1 c o e) hq)]
          exact sme c o e
        · cases e1
          have h1 := hmin _ (List.mem_append_right ns (List.mem_singleton.mpr rfl))
          have h2 : m * ls.length ≤ (b0 - tk) / (ls.length : Int) * ls.length := Int.mul_le_mul_of_nonneg_right h1 (by omega)
          have h3 := Int.ediv_mul_le (b0 - tk) (b := (ls.length : Int)) (by omega)
          omega
end
end Lp
namespace Lp
open PySem PySem.Spec PyProof.Rows L2
theorem rep_flat {α : Type} (a : α) : ∀ n : Nat, (List.replicate n [a]).flatten = List.replicate n a
  | 0 => rfl
  | n + 1 => by
    rw [List.replicate_succ, List.replicate_succ, List.flatten_cons, rep_flat a n]
    rfl
section
variable {P : Program} {w : World} {K : PySem.W.Frag} {mg : Str → Option Value} {base : Heap} {C : Addr}
/-! ### Going(table, dish, first) -/
def spInit (K : PySem.W.Frag) (C : Addr) : Sp := fun vs H Q _ => ∃ (p dx a : Addr) (H0 : Hp) (t : List Guest) (f : Nat) (d : Int), vs = [.ref p, .ref a, .int d, .int (f : Int)] ∧ Same H0 H ∧ H0 p = none ∧ H p = some (.ins C dx []) ∧ TableAt K H0 a t ∧ TabOk t ∧ f < t.length ∧
  ∀ (l : Addr) (H' : Hp), GoRun C H0 H' p a dx l t f d 0 → Q .non H'
theorem sc_Going_init : FnScope ["self", "table", "dish", "first"] ["self", "table", "dish", "first"] (defScope s_Going_init) := ⟨rfl, rfl, rfl, by decide +kernel, rfl, by decide +kernel, by decide +kernel⟩
theorem ok_init {f : Addr} {fd : FuncData} (F : L2.Fun K "__init__" "Going.__init__" s_Going_init f fd) (T : GoT K C) (B : Bls mg) : FnOk P w K mg base L2.CX0 1 f fd ["self", "table", "dish", "first"] (spInit K C) := by
  refine F.ok sc_Going_init (fun vs H Q E h => ?_) (fun cdv A outer s H vs Q E hr h => ?_)
  · obtain ⟨p, dx, a, H0, t, f, d, rfl, _⟩ := h
    rfl
  · obtain ⟨p, dx, a, H0, t, fs, d, rfl, s0, p0, hp, tb, ok, hf, k⟩ := h
    refine ⟨_, (pss_cons (ps_fld (pv 0) (pv 1) rfl)
      (pss_cons (ps_fld (pv 0) (pv 2) rfl)
      (pss_cons (ps_fld (pv 0) (pv 3) rfl)
      (pss_cons (ps_fld (pv 0) (pe_op op_rep (pe_lst (pa_cons pe_int pa_nil)) (pe_len B (pv 1))) rfl)
      (pss_cons (ps_fld (pv 0) pe_int rfl)
      (pss_one (ps_fld (pv 0) pe_int rfl))))))), ?_⟩
    have hop : 1 ≤ t.length ∧ t.length ≤ 8 := ⟨ok.1, ok.2.1⟩
    -- table, left, seat
    refine ⟨_, rfl, _, rfl, p, C, dx, _, rfl, hp, T.cl, T.nt, by show 0 < 1000; decide, ?_⟩
    refine ⟨_, rfl, _, rfl, p, C, dx, _, rfl, upd_same, T.cl, T.nl, by show 1 < 1000; decide, ?_⟩
    refine ⟨_, rfl, _, rfl, p, C, dx, _, rfl, upd_same, T.cl, T.ns, Nat.lt_of_le_of_lt (length_putF _ _ _) (by show 1 + 1 < 1000; decide), ?_⟩
    -- had
    have s3 := upd_kept (o := .ins C dx (putF "seat" (.int (fs : Int)) (putF "left" (.int d) (putF "table" (.ref a) [])))) (upd_kept (o := .ins C dx (putF "left" (.int d) (putF "table" (.ref a) []))) (upd_kept (o := .ins C dx (putF "table" (.ref a) [])) s0 p0) p0) p0
    refine ⟨by show 1 ≤ sizeLine; decide, fun z hz => ?_⟩
    have npz : p ≠ z := ne_of_none upd_same hz
    have s4 := s3.trans (same_upd (o := .lst [.int 0]) hz)
    obtain ⟨xs, hx, hl, _⟩ := (tb.same s4).open
    refine ⟨_, rfl, a, xs, rfl, .inr hx, z, _, _, rfl, rfl, upd_same, by omega, by omega, ?_, fun l hlf => ?_⟩
    · show 1 * ((xs.length : Nat) : Int).toNat ≤ sizeLine
      exact Nat.le_of_lt (small1000 (by omega))
    have npl : p ≠ l := ne_of_none (o := .ins C dx (putF "seat" (.int (fs : Int)) (putF "left" (.int d) (putF "table" (.ref a) [])))) (by rw [upd_ne npz, upd_same]) hlf
    have l0 : H0 l = none := s4.free hlf
    refine ⟨_, rfl, p, C, dx, _, rfl, Eq.trans (upd_ne npl) (Eq.trans (upd_ne npz) upd_same), T.cl, T.nh, ?_, ?_⟩
    · exact Nat.lt_of_le_of_lt (Nat.le_trans (length_putF _ _ _) (Nat.succ_le_succ (length_putF _ _ _))) (by show 1 + 1 + 1 < 1000; decide)
    refine ⟨_, rfl, p, C, dx, _, rfl, upd_same, T.cl, T.nk, ?_, ?_⟩
    · exact Nat.lt_of_le_of_lt (Nat.le_trans (length_putF _ _ _) (Nat.succ_le_succ (Nat.le_trans (length_putF _ _ _) (Nat.succ_le_succ (length_putF _ _ _))))) (by show 1 + 1 + 1 + 1 < 1000; decide)
    refine ⟨_, rfl, p, C, dx, _, rfl, upd_same, T.cl, T.nv, ?_, ?_⟩
    · exact Nat.lt_of_le_of_lt (Nat.le_trans (length_putF _ _ _) (Nat.succ_le_succ (Nat.le_trans (length_putF _ _ _) (Nat.succ_le_succ (Nat.le_trans (length_putF _ _ _) (Nat.succ_le_succ (length_putF _ _ _))))))) (by show 1 + 1 + 1 + 1 + 1 < 1000; decide)
    refine k l _ (GoRun.cast (x := d) (s := (fs : Int)) (hs := List.replicate t.length 0) (v := 0) (y := 0) ⟨?_, p0, l0, ?_, ?_⟩ rfl ?_ ?_ ?_ rfl)
    · exact upd_kept (upd_kept (upd_kept (s4.trans (same_upd hlf)) p0) p0) p0
    · rw [upd_same]
      exact congrArg (fun q => some (HO.ins C dx q)) gf_made
    · rw [upd_ne (Ne.symm npl), upd_ne (Ne.symm npl), upd_ne (Ne.symm npl), upd_same]
      show some (HO.lst (List.replicate ((xs.length : Nat) : Int).toNat [V.int 0]).flatten) = _
      rw [Int.toNat_natCast, hl, rep_flat, List.map_replicate]
    · rw [Nat.add_zero, Nat.mod_eq_of_lt hf]
    · exact (D.hadL_zero _).symm
    · show (0 : Int) = d - d
      omega
end
end Lp
namespace Lp
open PySem PySem.Spec PyProof.Rows L2
section
variable {P : Program} {w : World} {K : PySem.W.Frag} {mg : Str → Option Value} {base : Heap} {C : Addr}
/-! ### go -/
abbrev St8 (t : List Guest) (f : Nat) (d : Int) (k : Nat) : D.S := D.run (D.gs t) t.length f d k
def spGo (K : PySem.W.Frag) (C : Addr) : Sp := fun vs H Q _ => ∃ (H0 : Hp) (p a dx l : Addr) (t : List Guest) (f : Nat) (d : Int) (nm : Option Int), vs = [.ref p, optV nm] ∧ GoRun C H0 H p a dx l t f d 0 ∧ TableAt K H0 a t ∧ TabOk t ∧ f < t.length ∧ (∀ b, nm = some b → 1 ≤ b) ∧
  (∀ (k : Nat) (H' : Hp), GoRun C H0 H' p a dx l t f d k → D.Quiet (D.gs t) t.length (St8 t f d k) → (∀ b, nm = some b → d - (St8 t f d k).left < b) → Q .non H') ∧
  (∀ (k : Nat) (q : Addr) (b : Int) (H' : Hp), nm = some b → d - (St8 t f d k).left = b - 1 → d - (St8 t f d (k + 1)).left = b → Same H0 H' → H' q = some (.tup [.int (((f + k) % t.length : Nat) : Int), .int ((k + 1 : Nat) : Int)]) → Q (.ref q) H')
theorem guest_pos {t : List Guest} (ok : TabOk t) (i : Nat) (hi : i < t.length) : 0 ≤ (D.gs t i).1 := (ok.2.2 _ (List.mem_of_getElem? (get_of hi))).1
/-- the list of those who want one: the comprehension's loop -/
theorem act_step {g : D.Gs} {s : D.S} (j : Nat) : ((List.range (j + 1)).filter fun i => decide (D.wants g s i)) = ((List.range j).filter fun i => decide (D.wants g s i)) ++ if D.wants g s j then [j] else [] := by
  rw [List.range_succ, List.filter_append]
  by_cases w : D.wants g s j
  · simp [w]
  · simp [w]
theorem optV_non {o : Option Int} (h : optV o = V.non) : o = none := by
  cases o with
  | none => rfl
  | some _ => cases h
theorem optV_some {o : Option Int} (h : ¬ optV o = V.non) : ∃ b, o = some b := by
  cases o with
  | none => exact absurd rfl h
  | some b => exact ⟨b, rfl⟩
theorem scal_opt (i : Int) (o : Option Int) : scal (.int i) (optV o) = true := by
  cases o <;> rfl
theorem args_if {σ : L2.St} {H : Hp} {nm : Option Int} (h1 : σ[1]? = some (some (optV nm))) {k : List V → Hp → Prop} (h : k [optV (nm.map (· - 1))] H) :
    tCons (tIf (tTest (tOp (fun x y H Q => y = .non ∧ Q (.bl (decide (x = .non))) H) (tVar 1) (tC .non))) (tC .non) (tOp (rI0 fun i j => .int (i - j)) (tVar 1) (tC (.int 1)))) tNil σ H k := by
  refine ⟨_, h1, rfl, _, rfl, ?_⟩
  cases nm with
  | none => exact iteT h
  | some b => exact iteF ⟨_, h1, _, _, rfl, rfl, h⟩
/-- between two turns of the while -/
def GoInv (C : Addr) (H0 : Hp) (p a dx l : Addr) (t : List Guest) (f : Nat) (d : Int) (nm : Option Int) (m : Nat) (σ : L2.St) (H : Hp) : Prop :=
  ∃ (k : Nat) (q : Addr) (v3 v4 v5 : Option V), σ = [some (.ref p), some (optV nm), some (.ref q), v3, v4, v5] ∧ GoRun C H0 H p a dx l t f d k ∧ H q = some (.lst (seatsV (D.act (D.gs t) t.length (St8 t f d k)))) ∧ q ≠ l ∧
    (∀ b, nm = some b → d - (St8 t f d k).left < b) ∧ m = (St8 t f d k).left.toNat
theorem sc_Going_go : FnScope ["self", "number", "some", "seat", "many", "turn"] ["self", "number"] (defScope s_Going_go) := ⟨rfl, rfl, rfl, by decide +kernel, rfl, by decide +kernel, by decide +kernel⟩
theorem ok_go {f : Addr} {fd : FuncData} (F : L2.Fun K "go" "Going.go" s_Going_go f fd) (T : GoT K C) (B : Bls mg) (m_would_take : Met P w K mg base 1 C "would_take" (spWould K C)) (m_rounds : Met P w K mg base 1 C "rounds" (spRounds K C)) (m_visit : Met P w K mg base 2 C "visit" (spVisit K C)) :
    FnOk P w K mg base L2.CX0 3 f fd ["self", "number"] (spGo K C) := by
  refine F.ok sc_Going_go (fun vs H Q E h => ?_) (fun cdv A outer s H vs Q E hr h => ?_)
  · obtain ⟨H0, p, a, dx, l, t, f, d, nm, rfl, _⟩ := h
    rfl
  · obtain ⟨H0, p, a, dx, l, t, fs, d, nm, rfl, G0, tb, ok, hf, hb, kQ, kT⟩ := h
    have hn : 0 < t.length := ok.1
    refine ⟨_, (pss_cons (ps_setLc (i := 2) (own := [("seat", 3)]) (g := gName 3)  (by rfl) sc_Going_go.nd rfl rfl (sw_true rfl rfl rfl (by decide +kernel)) (pi_range1 (by rfl) B.range (pa_cons (pe_len B (pe_fld (pv 0) rfl)) pa_nil)) (blkOk_by (own := [("seat", 3)]) (N := ["self", "number", "some", "seat", "many", "turn"]) (sc := defScope s_Going_go) (by decide +kernel)) (fun _ _ _ _ _ => by exact (pg_name (i := 3) sc_Going_go.nd rfl (Or.inl rfl))) (fun _ _ _ _ _ => by exact pts_one (pt_val (pe_me m_would_take hr (pv 0) (pa_cons (pv 3) pa_nil)))) (fun _ _ _ _ _ => by exact (pv 3)))
      (pss_cons (ps_while PassesOwn.never (pt_cmpR (op_neD hr.units) (pv 2) (pe_lst pa_nil) (nomark _))
      (pss_cons (ps_set (i := 4) sc_Going_go.nd rfl (Or.inl rfl) (pe_me m_rounds hr (pv 0) (pa_cons (pv 2) (pa_cons (pe_ifExp (pt_cmpR op_isN (pv 1) pe_non (nomark _)) pe_non (pe_op op_sub (pv 1) pe_int)) pa_nil))))
      (pss_cons (ps_for PassesOwn.never rfl (pi_list (pv 2)) (pg_name (i := 3) sc_Going_go.nd rfl (Or.inl rfl))
      (pss_one (ps_augS (pe_fld (pv 0) rfl) (pv 3) get_list (pv 4) ip_add set_list)))
      (pss_cons (ps_fldaug (pv 0) (pe_op op_mul (pv 4) (pe_len B (pv 2))) in_sub)
      (pss_cons (ps_fldaug (pv 0) (pe_op op_mul (pv 4) (pe_len B (pv 2))) in_add)
      (pss_cons (ps_fldaug (pv 0) (pe_op op_mul (pv 4) (pe_len B (pe_fld (pv 0) rfl))) in_add)
      (pss_cons (ps_for PassesOwn.never rfl (pi_range1 (by rfl) B.range (pa_cons (pe_len B (pe_fld (pv 0) rfl)) pa_nil)) (pg_name (i := 5) sc_Going_go.nd rfl (Or.inl rfl))
      (pss_cons (ps_set (i := 3) sc_Going_go.nd rfl (Or.inl rfl) (pe_fld (pv 0) rfl))
      (pss_one (ps_if (PW.pt (pw_and (pt_val (pe_me0 m_visit hr (pv 0))) (pw_and1 (pt_cmpR op_eq (pe_fld (pv 0) rfl) (pv 1) (nomark _)))))
      (pss_one (ps_ret (pe_tup (pa_cons (pv 3) (pa_cons (pe_fld (pv 0) rfl) pa_nil)))))
      pss_nil))))
      (pss_one (ps_setLc (i := 2) (own := [("seat", 3)]) (g := gName 3)  (by rfl) sc_Going_go.nd rfl rfl (sw_true rfl rfl rfl (by decide +kernel)) (pi_range1 (by rfl) B.range (pa_cons (pe_len B (pe_fld (pv 0) rfl)) pa_nil)) (blkOk_by (own := [("seat", 3)]) (N := ["self", "number", "some", "seat", "many", "turn"]) (sc := defScope s_Going_go) (by decide +kernel)) (fun _ _ _ _ _ => by exact (pg_name (i := 3) sc_Going_go.nd rfl (Or.inl rfl))) (fun _ _ _ _ _ => by exact pts_one (pt_val (pe_me m_would_take hr (pv 0) (pa_cons (pv 3) pa_nil)))) (fun _ _ _ _ _ => by exact (pv 3)))))))))))
      (pss_one (ps_ret pe_non)))), ?_⟩
    -- some = [..]
    obtain ⟨xs, hx, hl, _⟩ := (tb.same G0.same).open
    have l8 : xs.length ≤ 8 := by rw [hl]; exact ok.2.1
    refine ⟨_, rfl, p, C, dx, _, _, rfl, G0.ob, T.cl, T.nt, gf_table, a, xs, rfl, .inr hx, _, rfl, by omega, by omega, fun D0 hD0 => ?_⟩
    refine lc_range (lo := 0) (n := ((xs.length : Nat) : Int).toNat) (fun j H' => Same H H' ∧ H' D0 = some (.lst (seatsV ((List.range j).filter fun i => decide (D.wants (D.gs t) (St8 t fs d 0) i))))) ⟨same_upd hD0, upd_same⟩ ?_ ?_
    · rintro j H' hj ⟨sm, hl1⟩
      have hjn : j < t.length := by omega
      have G' := GoAt.more G0 sm
      refine ⟨rfl, _, rfl, p, dx, _, rfl, G'.ob, gf_no (by decide +kernel) (by decide +kernel) (by decide +kernel) (by decide +kernel) (by decide +kernel) (by decide +kernel), _, rfl, ?_⟩
      refine ⟨H0, p, a, dx, l, t, _, _, _, _, j, (by rw [Int.zero_add]; rfl), G', tb, hjn, _, rfl, ?_⟩
      by_cases wt : D.wants (D.gs t) (St8 t fs d 0) j
      · rw [decide_eq_true wt]
        refine iteT ⟨_, rfl, _, hl1, ?_, fun b o e => ?_, ?_⟩
        · rw [seatsV_len]
          exact small1000 (Nat.le_trans (List.length_filter_le _ _) (by rw [List.length_range]; have := ok.2.1; omega))
        · rw [upd_ne (ne_of_none e hD0)]
          exact sm b o e
        · rw [upd_same, act_step, if_pos wt, Int.zero_add]
          simp [seatsV]
      · rw [decide_eq_false wt]
        refine iteF ⟨sm, ?_⟩
        rw [hl1, act_step, if_neg wt, List.append_nil]
    rintro H1 ⟨sm, hq0⟩
    rw [Int.toNat_natCast, hl] at hq0
    have nql : D0 ≠ l := fun e => by rw [e, G0.ls] at hD0; cases hD0
    -- while
    refine ⟨GoInv C H0 p a dx l t fs d nm, ⟨_, 0, D0, none, none, none, rfl, GoAt.more G0 sm, hq0, nql, fun b e => ?_, rfl⟩, ?_⟩
    · have := hb b e
      show d - d < b
      omega
    clear hx hl l8 sm hq0 nql hD0
    rintro m0 σ H2 ⟨k, q, v3, v4, v5, rfl, G, hq, hql, hlt, rfl⟩
    refine ⟨_, rfl, Nat.zero_le _, fun z hz => ne_ints (ns := (D.act (D.gs t) t.length (St8 t fs d k)).map fun i : Nat => (i : Int)) (ms := []) (SqL.of ((same_upd hz) _ _ hq)) (SqL.of upd_same) ⟨_, rfl, ?_⟩⟩
    have sz : Same H2 (upd H2 z (.lst [])) := same_upd hz
    by_cases he : D.act (D.gs t) t.length (St8 t fs d k) = []
    · rw [he]
      refine iteF ?_
      exact kQ k _ (GoAt.more G sz) (D.act_nil.mp he) hlt
    have nn : ¬ ((D.act (D.gs t) t.length (St8 t fs d k)).map fun i : Nat => (i : Int)) = [] := fun e => he (List.map_eq_nil_iff.mp e)
    rw [decide_eq_false nn]
    refine iteT ⟨fun σ' H' => ∃ m', m' < (St8 t fs d k).left.toNat ∧ GoInv C H0 p a dx l t fs d nm m' σ' H', fun _ _ h => h, ?_⟩
    -- many = self.rounds(..)
    have G1 := GoAt.more G sz
    have hq1 := sz _ _ hq
    refine ⟨_, rfl, p, dx, _, rfl, G1.ob, gf_no (by decide +kernel) (by decide +kernel) (by decide +kernel) (by decide +kernel) (by decide +kernel) (by decide +kernel), _, rfl, ?_⟩
    refine args_if (nm := nm) rfl ?_
    refine ⟨H0, p, a, dx, l, q, t, St8 t fs d k, _, _, _, _, nm.map (· - 1), rfl, G1, tb, SqL.of hq1, he, Nat.le_trans (D.act_le _ _ _) ok.2.1, fun i hi => D.mem_act.mp hi, fun b0 e => ?_, fun m H3 s3 h1 h2 h3' => ?_⟩
    · cases nm with
      | none => cases e
      | some b =>
        have := hlt b rfl
        have e' : b - 1 = b0 := Option.some.inj e
        show d - (St8 t fs d k).left ≤ b0
        omega
    have h3 : ∀ b, nm = some b → (m : Int) * (D.act (D.gs t) t.length (St8 t fs d k)).length ≤ b - 1 - (d - (St8 t fs d k).left) := fun b e => by
      rw [e] at h3'
      exact h3' _ rfl
    have G3 := GoAt.more G1 s3
    have hq3 := s3 _ _ hq1
    -- for seat in some
    refine ⟨_, rfl, q, rfl, ⟨_, SqL.of hq3⟩, for_list (K := K) (a := q) (xs := seatsV (D.act (D.gs t) t.length (St8 t fs d k))) (fun j σ H' => ∃ (v3 : Option V), σ = [some (.ref p), some (optV nm), some (.ref q), v3, some (.int (m : Int)), v5] ∧
      GoAt C H0 H' p a dx l (St8 t fs d k).left (((fs + k) % t.length : Nat) : Int) (D.hadL t.length (D.hadOn (St8 t fs d k).had m ((D.act (D.gs t) t.length (St8 t fs d k)).take j))) (d - (St8 t fs d k).left) (k : Int) ∧
      H' q = some (.lst (seatsV (D.act (D.gs t) t.length (St8 t fs d k))))) ⟨v3, rfl, by rw [List.take_zero, D.hadOn_nil]; exact G3, hq3⟩ (fun j σ H' _ ⟨_, _, _, h⟩ => SqL.of h) ?_ ?_⟩
    · rintro j y σ H' hj ⟨v3, rfl, G', hq'⟩
      obtain ⟨i, hi, rfl⟩ := seatsV_get hj
      have mi : i ∈ D.act (D.gs t) t.length (St8 t fs d k) := List.mem_of_getElem? hi
      have hin := (D.mem_act.mp mi).1
      refine ⟨_, rfl, p, C, dx, _, _, rfl, G'.ob, T.cl, T.nh, gf_had, _, rfl, l, _, _, _, rfl, rfl, SqL.of G'.ls, Int.natCast_nonneg _, map_at (D.hadL_get _ hin), _, rfl, _, _, rfl, rfl, l, _, _, _, rfl, rfl, G'.ls, ixN_nat (by rw [List.length_map, D.hadL_len]; exact hin), ?_⟩
      have G'' := G'.setHad i (D.hadOn (St8 t fs d k).had m ((D.act (D.gs t) t.length (St8 t fs d k)).take j) i + m)
      rw [D.hadOn_snoc hin (D.mem_take_at (D.act_nodup _ _ _) hi)] at G''
      refine ⟨_, rfl, ?_, by rw [upd_ne hql]; exact hq'⟩
      rw [List.take_add_one, hi]
      exact G''
    rintro σ H4 ⟨v3', rfl, G4, hq4⟩
    rw [seatsV_len, List.take_length] at G4
    have hal := D.act_many (D.gs t) t.length (St8 t fs d k)
    have ha8 : (D.act (D.gs t) t.length (St8 t fs d k)).length ≤ 8 := Nat.le_trans (D.act_le _ _ _) ok.2.1
    -- left, taken, visits
    refine ⟨_, rfl, p, C, dx, _, _, rfl, G4.ob, T.cl, T.nl, gf_left, _, rfl, _, rfl, q, _, rfl, .inl (SqL.of hq4), _, _, rfl, rfl, .inr ⟨by omega, by rw [seatsV_len]; omega⟩, _, _, rfl, rfl, dx, _, G4.ob, small6, ?_⟩
    have G5 := G4.setLeft ((St8 t fs d k).left - (m : Int) * ((seatsV (D.act (D.gs t) t.length (St8 t fs d k))).length : Int))
    have npq : q ≠ p := ne_of hq4 G4.ob (by intro z; cases z)
    refine ⟨_, rfl, p, C, dx, _, _, rfl, G5.ob, T.cl, T.nk, gf_taken, _, rfl, _, rfl, q, _, rfl, .inl (SqL.of (by rw [upd_ne npq]; exact hq4)), _, _, rfl, rfl, .inr ⟨by omega, by rw [seatsV_len]; omega⟩, _, _, rfl, rfl, dx, _, G5.ob, small6, ?_⟩
    have G6 := G5.setTaken (d - (St8 t fs d k).left + (m : Int) * ((seatsV (D.act (D.gs t) t.length (St8 t fs d k))).length : Int))
    obtain ⟨xs, hx, hl, _⟩ := (tb.same G6.same).open
    have l8 : xs.length ≤ 8 := by rw [hl]; exact ok.2.1
    refine ⟨_, rfl, p, C, dx, _, _, rfl, G6.ob, T.cl, T.nv, gf_visits, _, rfl, _, rfl, p, C, dx, _, _, rfl, G6.ob, T.cl, T.nt, gf_table, a, xs, rfl, .inr hx, _, _, rfl, rfl, .inr ⟨by omega, by omega⟩, _, _, rfl, rfl, dx, _, G6.ob, small6, ?_⟩
    have G7 := G6.setVisits ((k : Int) + (m : Int) * (xs.length : Int))
    have sk := D.skip (g := D.gs t) (n := t.length) (f := fs) (d := d) (k := k) hn m (fun i hi w => by rw [← hal]; exact h1 i (D.mem_act.mpr ⟨hi, w⟩)) (fun i hi w => h2 i (D.mem_act.mpr ⟨hi, w⟩))
    rw [← hal] at sk
    have G8 : GoRun C H0 _ p a dx l t fs d (k + m * t.length) := GoRun.cast G7 (by rw [seatsV_len]; exact sk.2.symm) (by rw [← Nat.add_assoc, Nat.add_mul_mod_self_right]) (D.hadL_congr fun i hi => by
      rw [sk.1 i hi]
      unfold D.hadOn
      by_cases w : D.wants (D.gs t) (St8 t fs d k) i
      · rw [if_pos (D.mem_act.mpr ⟨hi, w⟩), if_pos w]
      · rw [if_neg fun z => w (D.mem_act.mp z).2, if_neg w]
        exact (Int.add_zero _).symm) (by rw [seatsV_len, sk.2]; show d - (St8 t fs d k).left + _ = d - ((St8 t fs d k).left - _); omega) (by rw [hl]; push_cast; rfl)
    have lt8 : ∀ b, nm = some b → d - (St8 t fs d (k + m * t.length)).left < b := fun b e => by
      have e3 := h3 b e
      have e4 : (St8 t fs d (k + m * t.length)).left = (St8 t fs d k).left - m * ((D.act (D.gs t) t.length (St8 t fs d k)).length : Int) := sk.2
      omega
    -- for turn in range(..)
    obtain ⟨xs2, hx2, hl2, _⟩ := (tb.same G8.same).open
    have l82 : xs2.length ≤ 8 := by rw [hl2]; exact ok.2.1
    refine ⟨_, rfl, p, C, dx, _, _, rfl, G8.ob, T.cl, T.nt, gf_table, a, xs2, rfl, .inr hx2, _, rfl, by omega, by omega, for_range (lo := 0) (n := ((xs2.length : Nat) : Int).toNat) (fun j σ H' => ∃ (v3 v5 : Option V), σ = [some (.ref p), some (optV nm), some (.ref q), v3, some (.int (m : Int)), v5] ∧
      GoRun C H0 H' p a dx l t fs d (k + m * t.length + j) ∧ ∀ b, nm = some b → d - (St8 t fs d (k + m * t.length + j)).left < b) ⟨_, _, rfl, G8, lt8⟩ ?_ ?_⟩
    · rintro j σ H' hj ⟨v3, v5, rfl, G', hlt'⟩
      refine ⟨_, rfl, p, C, dx, _, _, rfl, G'.ob, T.cl, T.ns, gf_seat, ?_⟩
      refine ⟨_, rfl, p, dx, _, rfl, G'.ob, gf_no (by decide +kernel) (by decide +kernel) (by decide +kernel) (by decide +kernel) (by decide +kernel) (by decide +kernel), ?_⟩
      refine ⟨H0, p, a, dx, l, t, fs, d, k + m * t.length + j, rfl, G', tb, ok, fun H9 G9 kp => ⟨_, rfl, ?_⟩⟩
      have stp : St8 t fs d (k + m * t.length + j + 1) = D.vis (D.gs t) (St8 t fs d (k + m * t.length + j)) ((fs + (k + m * t.length + j)) % t.length) := rfl
      by_cases wt : D.wants (D.gs t) (St8 t fs d (k + m * t.length + j)) ((fs + (k + m * t.length + j)) % t.length)
      · rw [decide_eq_true wt]
        have el : (St8 t fs d (k + m * t.length + j + 1)).left = (St8 t fs d (k + m * t.length + j)).left - 1 := by rw [stp, D.vis_yes wt]
        refine iteT ⟨_, rfl, p, C, dx, _, _, rfl, G9.ob, T.cl, T.nk, gf_taken, _, rfl, scal_opt _ _, _, rfl, ?_⟩
        refine ite2 (fun c => ?_) (fun c => ?_)
        · have ec := of_decide_eq_true c
          obtain ⟨b, hb'⟩ := optV_some (o := nm) fun e => by rw [e] at ec; cases ec
          rw [hb'] at ec
          have eb : d - (St8 t fs d (k + m * t.length + j + 1)).left = b := V.int.inj ec
          refine ⟨_, rfl, _, rfl, p, C, dx, _, _, rfl, G9.ob, T.cl, T.nv, gf_visits, by show 2 ≤ sizeLine; decide, fun r hr => ?_⟩
          exact kT _ r b _ hb' (by omega) eb (G9.same.trans (same_upd hr)) upd_same
        · refine ⟨_, _, rfl, G9, fun b e => ?_⟩
          have h7 := hlt' b e
          have : d - (St8 t fs d (k + m * t.length + j + 1)).left ≠ b := fun z => c (decide_eq_true (by rw [e]; exact congrArg V.int z))
          show d - (St8 t fs d (k + m * t.length + j + 1)).left < b
          omega
      · rw [decide_eq_false wt]
        refine iteF ⟨_, _, rfl, G9, fun b e => ?_⟩
        have h7 := hlt' b e
        show d - (St8 t fs d (k + m * t.length + j + 1)).left < b
        rw [stp, D.vis_no wt]
        exact h7
    rintro σ H7 ⟨v3'', v5'', rfl, G7', hlt7⟩
    rw [Int.toNat_natCast, hl2] at G7' hlt7
    -- some = [..]
    clear hx hl l8
    obtain ⟨xs, hx, hl, _⟩ := (tb.same G7'.same).open
    have l8 : xs.length ≤ 8 := by rw [hl]; exact ok.2.1
    refine ⟨_, rfl, p, C, dx, _, _, rfl, G7'.ob, T.cl, T.nt, gf_table, a, xs, rfl, .inr hx, _, rfl, by omega, by omega, fun D0 hD0 => ?_⟩
    refine lc_range (lo := 0) (n := ((xs.length : Nat) : Int).toNat) (fun j H' => Same H7 H' ∧ H' D0 = some (.lst (seatsV ((List.range j).filter fun i => decide (D.wants (D.gs t) (St8 t fs d (k + m * t.length + t.length)) i))))) ⟨same_upd hD0, upd_same⟩ ?_ ?_
    · rintro j H' hj ⟨sm, hl1⟩
      have hjn : j < t.length := by omega
      have G' := GoAt.more G7' sm
      refine ⟨rfl, _, rfl, p, dx, _, rfl, G'.ob, gf_no (by decide +kernel) (by decide +kernel) (by decide +kernel) (by decide +kernel) (by decide +kernel) (by decide +kernel), _, rfl, ?_⟩
      refine ⟨H0, p, a, dx, l, t, _, _, _, _, j, (by rw [Int.zero_add]; rfl), G', tb, hjn, _, rfl, ?_⟩
      by_cases wt : D.wants (D.gs t) (St8 t fs d (k + m * t.length + t.length)) j
      · rw [decide_eq_true wt]
        refine iteT ⟨_, rfl, _, hl1, ?_, fun b o e => ?_, ?_⟩
        · rw [seatsV_len]
          exact small1000 (Nat.le_trans (List.length_filter_le _ _) (by rw [List.length_range]; have := ok.2.1; omega))
        · rw [upd_ne (ne_of_none e hD0)]
          exact sm b o e
        · rw [upd_same, act_step, if_pos wt, Int.zero_add]
          simp [seatsV]
      · rw [decide_eq_false wt]
        refine iteF ⟨sm, ?_⟩
        rw [hl1, act_step, if_neg wt, List.append_nil]
    rintro H8 ⟨sm, hq0⟩
    rw [Int.toNat_natCast, hl] at hq0
    -- a piece was taken
    have nq : ¬ D.Quiet (D.gs t) t.length (St8 t fs d k) := fun z => he (D.act_nil.mpr z)
    have less : (St8 t fs d (k + m * t.length + t.length)).left < (St8 t fs d k).left := by
      cases m with
      | zero =>
        rw [Nat.zero_mul, Nat.add_zero]
        exact D.progress hn nq
      | succ m =>
        have e1 := D.run_left_le (g := D.gs t) (n := t.length) (f := fs) (d := d) (k + (m + 1) * t.length) t.length
        have e2 : (St8 t fs d (k + (m + 1) * t.length)).left = (St8 t fs d k).left - ((m + 1 : Nat) : Int) * ((D.act (D.gs t) t.length (St8 t fs d k)).length : Int) := sk.2
        have e3 : 1 ≤ (D.act (D.gs t) t.length (St8 t fs d k)).length := by
          cases ee : D.act (D.gs t) t.length (St8 t fs d k) with
          | nil => exact absurd ee he
          | cons _ _ => exact Nat.succ_le_succ (Nat.zero_le _)
        have e4 : (1 : Int) * 1 ≤ ((m + 1 : Nat) : Int) * ((D.act (D.gs t) t.length (St8 t fs d k)).length : Int) := Int.mul_le_mul (by omega) (by omega) (by omega) (by omega)
        have e5 : (St8 t fs d (k + (m + 1) * t.length + t.length)).left ≤ (St8 t fs d (k + (m + 1) * t.length)).left := e1
        omega
    have pos : 0 < (St8 t fs d k).left := by
      cases ee : D.act (D.gs t) t.length (St8 t fs d k) with
      | nil => exact absurd ee he
      | cons i _ =>
        have mi := D.mem_act.mp (show i ∈ D.act (D.gs t) t.length (St8 t fs d k) by rw [ee]; exact List.mem_cons_self)
        have := mi.2.1
        have := guest_pos ok i mi.1
        omega
    exact ⟨(St8 t fs d (k + m * t.length + t.length)).left.toNat, by omega, k + m * t.length + t.length, D0, _, _, _, rfl, GoAt.more G7' sm, hq0, (fun e => by rw [e, G7'.ls] at hD0; cases hD0), hlt7, rfl⟩
end
/-- how the dish rests -/
abbrev Fin (t : List Guest) (f : Nat) (d : Int) : D.S := D.fin (D.gs t) t.length f d
/-- the shares of the rest -/
abbrev finL (t : List Guest) (f : Nat) (d : Int) : List Int := D.hadL t.length (Fin t f d).had
theorem fin_at {t : List Guest} {f : Nat} {d : Int} {k : Nat} (ok : TabOk t) (hd : 0 ≤ d) (q : D.Quiet (D.gs t) t.length (St8 t f d k)) : St8 t f d k = Fin t f d :=
  D.fin_of ok.1 (fun i hi => guest_pos ok i hi) hd q
theorem same_made {H : Hp} {x dx C : Addr} (nx : H x = none) (nd : H dx = none) : Same H (upd (upd H dx (.own x)) x (.ins C dx [])) := fun b o e => by
  rw [upd_ne (ne_of_none e nx), upd_ne (ne_of_none e nd)]
  exact e
end Lp
namespace Lp
open PySem PySem.Spec PyProof.Rows L2
section
variable {P : Program} {w : World} {K : PySem.W.Frag} {mg : Str → Option Value} {base : Heap} {C : Addr}
/-! ### rested -/
def spRested (K : PySem.W.Frag) : Sp := fun vs H Q _ => ∃ (a : Addr) (t : List Guest) (f : Nat) (d : Int), vs = [.ref a, .int d, .int (f : Int)] ∧ TableAt K H a t ∧ TabOk t ∧ f < t.length ∧ 0 ≤ d ∧
  ∀ (q l : Addr) (H' : Hp), Same H H' → H l = none → H' q = some (.tup [.ref l, .int (Fin t f d).left]) → H' l = some (.lst ((finL t f d).map V.int)) → Q (.ref q) H'
theorem sc_rested : FnScope ["table", "dish", "first", "going"] ["table", "dish", "first"] (defScope s_rested) := ⟨rfl, rfl, rfl, by decide +kernel, rfl, by decide +kernel, by decide +kernel⟩
theorem ok_rested {f : Addr} {fd : FuncData} (F : L2.Fun K "rested" "rested" s_rested f fd) (T : GoT K C) (n_Going : Mak P w K mg base 1 "Going" C (spInit K C)) (m_go : Met P w K mg base 3 C "go" (spGo K C)) :
    FnOk P w K mg base L2.CX0 4 f fd ["table", "dish", "first"] (spRested K) := by
  refine F.ok sc_rested (fun vs H Q E h => ?_) (fun cdv A outer s H vs Q E hr h => ?_)
  · obtain ⟨a, t, f, d, rfl, _⟩ := h
    rfl
  · obtain ⟨a, t, fs, d, rfl, tb, ok, hf, hd, k⟩ := h
    refine ⟨_, (pss_cons (ps_set (i := 3) sc_rested.nd rfl (Or.inl rfl) (pe_new n_Going hr (pa_cons (pv 0) (pa_cons (pv 1) (pa_cons (pv 2) pa_nil)))))
      (pss_cons (ps_expr (pe_me m_go hr (pv 3) (pa_cons pe_non pa_nil)))
      (pss_one (ps_ret (pe_tup (pa_cons (pe_fld (pv 3) rfl) (pa_cons (pe_fld (pv 3) rfl) pa_nil))))))), ?_⟩
    refine ⟨_, rfl, _, rfl, _, rfl, fun x dx nx ndx nex => ?_⟩
    refine ⟨x, dx, a, H, t, fs, d, rfl, same_made nx ndx, nx, upd_same, tb, ok, hf, fun l H1 G => ⟨rfl, ?_⟩⟩
    refine ⟨_, rfl, x, dx, _, rfl, G.ob, gf_no (by decide +kernel) (by decide +kernel) (by decide +kernel) (by decide +kernel) (by decide +kernel) (by decide +kernel), ?_⟩
    refine ⟨H, x, a, dx, l, t, fs, d, none, rfl, G, tb, ok, hf, (fun b e => by cases e), fun n H2 G2 qt _ => ?_, fun n q b H2 e => by cases e⟩
    have e := fin_at ok hd qt
    refine ⟨_, rfl, x, C, dx, _, _, rfl, G2.ob, T.cl, T.nh, gf_had, _, rfl, x, C, dx, _, _, rfl, G2.ob, T.cl, T.nl, gf_left, by show 2 ≤ sizeLine; decide, fun r hrr => ?_⟩
    have gl := G2.ls
    have e' : D.run (D.gs t) t.length fs d n = Fin t fs d := e
    rw [e'] at gl
    rw [e']
    exact k r l _ (G2.same.trans (same_upd hrr)) G2.newl upd_same (same_upd hrr _ _ gl)
end
end Lp
namespace Lp
open PySem PySem.Spec PyProof.Rows L2
/-! ### heaps in which bags turn -/
/-- all stands as it was, but that a bag's place (a list [draws, place]) may be another -/
def Evo (H H' : Hp) : Prop := ∀ a o, H a = some o → H' a = some o ∨ ∃ (l : Addr) (i j : Int), o = .lst [.ref l, .int i] ∧ H' a = some (.lst [.ref l, .int j]) ∧ (0 ≤ i → 0 ≤ j)
theorem Evo.refl (H : Hp) : Evo H H := fun _ _ h => .inl h
theorem Evo.trans {H H1 H2 : Hp} (e1 : Evo H H1) (e2 : Evo H1 H2) : Evo H H2 := fun a o h => by
  rcases e1 a o h with h1 | ⟨l, i, j, rfl, h1, p1⟩
  · exact e2 a o h1
  · rcases e2 a _ h1 with h2 | ⟨l', i', j', q, h2, p2⟩
    · exact .inr ⟨l, i, j, rfl, h2, p1⟩
    · cases q
      exact .inr ⟨l, i, j', rfl, h2, fun z => p2 (p1 z)⟩
theorem Same.evo {H H' : Hp} (s : Same H H') : Evo H H' := fun a o h => .inl (s a o h)
theorem Evo.keep {H H' : Hp} (e : Evo H H') {a : Addr} {o : HO} (h : H a = some o) (no : ∀ l i, o ≠ .lst [.ref l, .int i]) : H' a = some o := by
  rcases e a o h with h1 | ⟨l, i, j, q, _⟩
  · exact h1
  · exact absurd q (no l i)
theorem Evo.free {H H' : Hp} (e : Evo H H') {a : Addr} (h : H' a = none) : H a = none := by
  cases q : H a with
  | none => rfl
  | some o =>
    rcases e a o q with h1 | ⟨_, _, _, _, h1, _⟩
    · rw [h] at h1; cases h1
    · rw [h] at h1; cases h1
section
variable {K : PySem.W.Frag} {H H' : Hp} {a : Addr}
theorem Evo.sqt (e : Evo H H') {xs : List V} (h : SqT K H a xs) : SqT K H' a xs := by
  rcases h with (h | ⟨o, h⟩) | h
  · exact .inl (.inl (e.keep h fun _ _ z => by cases z))
  · exact .inl (.inr ⟨o, e.keep h fun _ _ z => by cases z⟩)
  · exact .inr h
theorem Evo.sql (e : Evo H H') {xs : List V} (h : SqL K H a xs) (no : ∀ l i, xs ≠ [.ref l, .int i]) : SqL K H' a xs := by
  rcases h with (h | ⟨o, h⟩) | h
  · exact .inl (.inl (e.keep h fun l i z => no l i (HO.lst.inj z)))
  · exact .inl (.inr ⟨o, e.keep h fun _ _ z => by cases z⟩)
  · exact .inr h
theorem ints_no {ns : List Int} (l : Addr) (i : Int) : ns.map V.int ≠ [.ref l, .int i] := fun z => by
  cases ns with
  | nil => cases z
  | cons _ _ => cases z
theorem refs_no {ps : List Addr} (l : Addr) (i : Int) : ps.map V.ref ≠ [.ref l, .int i] := fun z => by
  cases ps with
  | nil => cases z
  | cons _ r =>
    cases r with
    | nil => cases z
    | cons _ _ => cases z
theorem Evo.ints (e : Evo H H') {ns : List Int} (h : SqL K H a (ns.map V.int)) : SqL K H' a (ns.map V.int) := e.sql h ints_no
theorem Evo.intsH (e : Evo H H') {ns : List Int} (h : H a = some (.lst (ns.map V.int))) : H' a = some (.lst (ns.map V.int)) := e.keep h fun l i z => ints_no l i (HO.lst.inj z)
theorem Evo.refsH (e : Evo H H') {ps : List Addr} (h : H a = some (.lst (ps.map V.ref))) : H' a = some (.lst (ps.map V.ref)) := e.keep h fun l i z => refs_no l i (HO.lst.inj z)
theorem Evo.tupH (e : Evo H H') {xs : List V} (h : H a = some (.tup xs)) : H' a = some (.tup xs) := e.keep h fun l i z => by cases z
/-- data without lists -/
inductive NoL : PyData → Prop
  | non : NoL .none
  | bl (b : Bool) : NoL (.bool b)
  | int (i : Int) : NoL (.int i)
  | str (x : Str) : NoL (.str x)
  | tup {ds : List PyData} (h : ∀ d ∈ ds, NoL d) : NoL (.tuple ds)
theorem dp_evo (e : Evo H H') {v : V} {d : PyData} (n : NoL d) (h : Dp K H v d) : Dp K H' v d := by
  have key : ∀ (n : Nat), (∀ (d : PyData) (v : V), sizeOf d < n → NoL d → Dp K H v d → Dp K H' v d) ∧ ∀ (ds : List PyData) (vs : List V), sizeOf ds < n → (∀ d ∈ ds, NoL d) → DpAll K H vs ds → DpAll K H' vs ds := by
    intro n
    induction n with
    | zero => exact ⟨fun _ _ h => absurd h (Nat.not_lt_zero _), fun _ _ h => absurd h (Nat.not_lt_zero _)⟩
    | succ n ih =>
      refine ⟨fun d v hn hl h => ?_, fun ds vs hn hl h => ?_⟩
      · cases h with
        | non => exact .non
        | bl b => exact .bl b
        | int i => exact .int i
        | str x => exact .str x
        | lst hs ha => cases hl
        | tup hs ha =>
          cases hl with
          | tup hl => exact .tup (e.sqt hs) (ih.2 _ _ (by simp only [PyData.tuple.sizeOf_spec] at hn; omega) hl ha)
      · cases h with
        | nil => exact .nil
        | cons h1 h2 =>
          simp only [List.cons.sizeOf_spec] at hn
          exact .cons (ih.1 _ _ (by omega) (hl _ List.mem_cons_self) h1) (ih.2 _ _ (by omega) (fun d hd => hl d (List.mem_cons_of_mem _ hd)) h2)
  exact (key (sizeOf d + 1)).1 d v (Nat.lt_succ_self _) n h
theorem tab_noL (t : List Guest) : NoL (tabD t) := .tup fun d hd => by
  obtain ⟨g, _, rfl⟩ := List.mem_map.mp hd
  obtain ⟨c, e⟩ := g
  refine .tup fun x hx => ?_
  rcases List.mem_cons.mp hx with h | hx
  · rw [h]; exact .int _
  · have : x = optD e := by simpa using hx
    rw [this]
    cases e with
    | none => exact .non
    | some m => exact .int m
theorem TableAt.evo {t : List Guest} (h : TableAt K H a t) (e : Evo H H') : TableAt K H' a t := dp_evo e (tab_noL t) h
/-- a bag of draws -/
def BagAt (K : PySem.W.Frag) (H : Hp) (b : Addr) : Prop := ∃ (l : Addr) (i : Int) (ns : List Int), H b = some (.lst [.ref l, .int i]) ∧ 0 ≤ i ∧ SqL K H l (ns.map V.int) ∧ ns.length = 400 ∧ ∀ n ∈ ns, 0 ≤ n ∧ n < 1000
theorem BagAt.evo {b : Addr} (h : BagAt K H b) (e : Evo H H') : BagAt K H' b := by
  obtain ⟨l, i, ns, h1, h2, h3, h4, h5⟩ := h
  rcases e b _ h1 with q | ⟨l', i', j, q, h6, h7⟩
  · exact ⟨l, i, ns, q, h2, e.ints h3, h4, h5⟩
  · cases q
    exact ⟨l, j, ns, h6, h7 h2, e.ints h3, h4, h5⟩
end
end Lp
namespace Lp
open PySem PySem.Spec PyProof.Rows L2
/-! ### heaps in which bags turn and tables of code objects grow -/
/-- all stands as it was, but that a bag's place (a list [draws, place]) may be another; tables of code objects may grow -/
def Evw (H H' : Hp) : Prop := ∀ a o, H a = some o → H' a = some o ∨ (∃ (l : Addr) (i j : Int), o = .lst [.ref l, .int i] ∧ H' a = some (.lst [.ref l, .int j]) ∧ (0 ≤ i → 0 ≤ j)) ∨ ((∃ ps, o = .tbl ps) ∧ H' a ≠ none)
theorem Evw.there {H H' : Hp} (e : Evw H H') {a : Addr} {o : HO} (h : H a = some o) : H' a ≠ none := by
  rcases e a o h with h1 | ⟨_, _, _, _, h1, _⟩ | ⟨_, h1⟩
  · rw [h1]; exact fun z => nomatch z
  · rw [h1]; exact fun z => nomatch z
  · exact h1
theorem Evw.refl (H : Hp) : Evw H H := fun _ _ h => .inl h
theorem Evw.trans {H H1 H2 : Hp} (e1 : Evw H H1) (e2 : Evw H1 H2) : Evw H H2 := fun a o h => by
  rcases e1 a o h with h1 | ⟨l, i, j, rfl, h1, p1⟩ | ⟨tb, h1⟩
  · exact e2 a o h1
  · rcases e2 a _ h1 with h2 | ⟨l', i', j', q, h2, p2⟩ | ⟨⟨ps, q⟩, _⟩
    · exact .inr (.inl ⟨l, i, j, rfl, h2, p1⟩)
    · cases q
      exact .inr (.inl ⟨l, i, j', rfl, h2, fun z => p2 (p1 z)⟩)
    · cases q
  · refine .inr (.inr ⟨tb, ?_⟩)
    cases q : H1 a with
    | none => exact absurd q h1
    | some u => exact e2.there q
theorem Same.evw {H H' : Hp} (s : Same H H') : Evw H H' := fun a o h => .inl (s a o h)
theorem Evw.keep {H H' : Hp} (e : Evw H H') {a : Addr} {o : HO} (h : H a = some o) (no : ∀ l i, o ≠ .lst [.ref l, .int i]) (nt : ∀ ps, o ≠ .tbl ps := by intro _ z; cases z) : H' a = some o := by
  rcases e a o h with h1 | ⟨l, i, j, q, _⟩ | ⟨⟨ps, q⟩, _⟩
  · exact h1
  · exact absurd q (no l i)
  · exact absurd q (nt ps)
theorem Evw.free {H H' : Hp} (e : Evw H H') {a : Addr} (h : H' a = none) : H a = none := by
  cases q : H a with
  | none => rfl
  | some o => exact absurd h (e.there q)
section
variable {K : PySem.W.Frag} {H H' : Hp} {a : Addr}
theorem Evw.sqt (e : Evw H H') {xs : List V} (h : SqT K H a xs) : SqT K H' a xs := by
  rcases h with (h | ⟨o, h⟩) | h
  · exact .inl (.inl (e.keep h fun _ _ z => by cases z))
  · exact .inl (.inr ⟨o, e.keep h fun _ _ z => by cases z⟩)
  · exact .inr h
theorem Evw.sql (e : Evw H H') {xs : List V} (h : SqL K H a xs) (no : ∀ l i, xs ≠ [.ref l, .int i]) : SqL K H' a xs := by
  rcases h with (h | ⟨o, h⟩) | h
  · exact .inl (.inl (e.keep h fun l i z => no l i (HO.lst.inj z)))
  · exact .inl (.inr ⟨o, e.keep h fun _ _ z => by cases z⟩)
  · exact .inr h
theorem Evw.ints (e : Evw H H') {ns : List Int} (h : SqL K H a (ns.map V.int)) : SqL K H' a (ns.map V.int) := e.sql h ints_no
theorem Evw.intsH (e : Evw H H') {ns : List Int} (h : H a = some (.lst (ns.map V.int))) : H' a = some (.lst (ns.map V.int)) := e.keep h fun l i z => ints_no l i (HO.lst.inj z)
theorem Evw.refsH (e : Evw H H') {ps : List Addr} (h : H a = some (.lst (ps.map V.ref))) : H' a = some (.lst (ps.map V.ref)) := e.keep h fun l i z => refs_no l i (HO.lst.inj z)
theorem Evw.tupH (e : Evw H H') {xs : List V} (h : H a = some (.tup xs)) : H' a = some (.tup xs) := e.keep h fun l i z => by cases z
theorem dp_evw (e : Evw H H') {v : V} {d : PyData} (n : NoL d) (h : Dp K H v d) : Dp K H' v d := by
  have key : ∀ (n : Nat), (∀ (d : PyData) (v : V), sizeOf d < n → NoL d → Dp K H v d → Dp K H' v d) ∧ ∀ (ds : List PyData) (vs : List V), sizeOf ds < n → (∀ d ∈ ds, NoL d) → DpAll K H vs ds → DpAll K H' vs ds := by
    intro n
    induction n with
    | zero => exact ⟨fun _ _ h => absurd h (Nat.not_lt_zero _), fun _ _ h => absurd h (Nat.not_lt_zero _)⟩
    | succ n ih =>
      refine ⟨fun d v hn hl h => ?_, fun ds vs hn hl h => ?_⟩
      · cases h with
        | non => exact .non
        | bl b => exact .bl b
        | int i => exact .int i
        | str x => exact .str x
        | lst hs ha => cases hl
        | tup hs ha =>
          cases hl with
          | tup hl => exact .tup (e.sqt hs) (ih.2 _ _ (by simp only [PyData.tuple.sizeOf_spec] at hn; omega) hl ha)
      · cases h with
        | nil => exact .nil
        | cons h1 h2 =>
          simp only [List.cons.sizeOf_spec] at hn
          exact .cons (ih.1 _ _ (by omega) (hl _ List.mem_cons_self) h1) (ih.2 _ _ (by omega) (fun d hd => hl d (List.mem_cons_of_mem _ hd)) h2)
  exact (key (sizeOf d + 1)).1 d v (Nat.lt_succ_self _) n h
theorem TableAt.evw {t : List Guest} (h : TableAt K H a t) (e : Evw H H') : TableAt K H' a t := dp_evw e (tab_noL t) h
theorem BagAt.evw {b : Addr} (h : BagAt K H b) (e : Evw H H') : BagAt K H' b := by
  obtain ⟨l, i, ns, h1, h2, h3, h4, h5⟩ := h
  rcases e b _ h1 with q | ⟨l', i', j, q, h6, h7⟩ | ⟨⟨_, q⟩, _⟩
  · exact ⟨l, i, ns, q, h2, e.ints h3, h4, h5⟩
  · cases q
    exact ⟨l, j, ns, h6, h7 h2, e.ints h3, h4, h5⟩
  · cases q
end
theorem Evo.w {H H' : Hp} (e : Evo H H') : Evw H H' := fun a o h => by
  rcases e a o h with h1 | ⟨l, i, j, q, h1, p⟩
  · exact .inl h1
  · exact .inr (.inl ⟨l, i, j, q, h1, p⟩)
/-- all but the tables is kept, nothing is gone -/
def EvN (H H' : Hp) : Prop := LamX.ExtN H H' ∧ ∀ a, H' a = none → H a = none
theorem EvN.w {H H' : Hp} (e : EvN H H') : Evw H H' := fun a o h => by
  by_cases t : ∃ ps, o = .tbl ps
  · exact .inr (.inr ⟨t, fun z => by have := e.2 a z; rw [h] at this; cases this⟩)
  · exact .inl (e.1 a o h fun ps z => t ⟨ps, z⟩)
theorem EvN.refl (H : Hp) : EvN H H := ⟨LamX.ExtN.refl H, fun _ h => h⟩
theorem EvN.trans {H H1 H2 : Hp} (a : EvN H H1) (b : EvN H1 H2) : EvN H H2 := ⟨a.1.trans b.1, fun x h => a.2 x (b.2 x h)⟩
theorem Same.evn {H H' : Hp} (s : Same H H') : EvN H H' := ⟨.of s, fun a h => by
  cases q : H a with
  | none => rfl
  | some o => rw [s a o q] at h; cases h⟩
theorem Evo.tabs {T : List NdefX.NTab} {H H' : Hp} (e : Evo H H') (h : NdefX.TabsN T H) : NdefX.TabsN T H' := fun p hp => by
  obtain ⟨ps, h1, h2, h3⟩ := h p hp
  refine ⟨ps, e.keep h1 (fun _ _ z => by cases z), h2, fun pos cv hc => ?_⟩
  obtain ⟨c, e1, e2⟩ := h3 pos cv hc
  exact ⟨c, e1, e.keep e2 (fun _ _ z => by unfold LamX.CodeO at z; cases z)⟩
theorem Same.tabs {T : List NdefX.NTab} {H H' : Hp} (s : Same H H') (h : NdefX.TabsN T H) : NdefX.TabsN T H' := (Same.evo s).tabs h
section
variable {K : PySem.W.Frag} {H H' : Hp} {a : Addr}
theorem EvN.sqt (e : EvN H H') {xs : List V} (h : SqT K H a xs) : SqT K H' a xs := e.w.sqt h
theorem EvN.sql (e : EvN H H') {xs : List V} (h : SqL K H a xs) : SqL K H' a xs := by
  rcases h with (h | ⟨o, h⟩) | h
  · exact .inl (.inl (e.1 _ _ h fun _ z => by cases z))
  · exact .inl (.inr ⟨o, e.1 _ _ h fun _ z => by cases z⟩)
  · exact .inr h
theorem TableAt.evn {t : List Guest} (h : TableAt K H a t) (e : EvN H H') : TableAt K H' a t := h.evw e.w
end
open LamX NdefX
theorem tabs_upd {T : List NTab} {H : Hp} {l : Addr} {xs ys : List V} (h : TabsN T H) (hl : H l = some (.lst xs)) : TabsN T (upd H l (.lst ys)) := fun p hp => by
  obtain ⟨ps, h1, h2, h3⟩ := h p hp
  refine ⟨ps, by rw [upd_ne (ne_of h1 hl (by intro z; cases z))]; exact h1, h2, fun pos cv hc => ?_⟩
  obtain ⟨c, e1, e2⟩ := h3 pos cv hc
  exact ⟨c, e1, by rw [upd_ne (ne_of e2 hl (by unfold CodeO; intro z; cases z))]; exact e2⟩
theorem evn_kept {H H1 : Hp} {l : Addr} {o : HO} (e : EvN H H1) (hl : H l = none) : EvN H (upd H1 l o) :=
  ⟨fun a u h n => by rw [upd_ne (ne_of_none h hl)]; exact e.1 a u h n, fun a h => e.2 a (upd_none h)⟩
theorem EvN.lst {H H' : Hp} (e : EvN H H') {a : Addr} {xs : List V} (h : H a = some (.lst xs)) : H' a = some (.lst xs) := e.1 _ _ h fun _ z => by cases z
theorem EvN.tup {H H' : Hp} (e : EvN H H') {a : Addr} {xs : List V} (h : H a = some (.tup xs)) : H' a = some (.tup xs) := e.1 _ _ h fun _ z => by cases z
end Lp
namespace Lp
open PySem PySem.Spec PyProof.Rows L2
section
variable {P : Program} {w : World} {K : PySem.W.Frag} {mg : Str → Option Value} {base : Heap}
/-! ### the law's draws -/
def spCell (K : PySem.W.Frag) : Sp := fun vs H Q _ => ∃ (a : Addr) (ns : List Int) (k : Int), vs = [.ref a, .int k] ∧ SqL K H a (ns.map V.int) ∧ 0 ≤ k ∧ ∀ z : Int, Q (.int z) H
theorem sc_law_cell_at : FnScope ["script", "k"] ["script", "k"] (defScope s_law_cell_at) := ⟨rfl, rfl, rfl, by decide +kernel, rfl, by decide +kernel, by decide +kernel⟩
theorem ok_cell {f : Addr} {fd : FuncData} (F : L2.Fun K "_law_cell_at" "_law_cell_at" s_law_cell_at f fd) (B : Bls mg) : FnOk P w K mg base L2.CX0 1 f fd ["script", "k"] (spCell K) := by
  refine F.ok sc_law_cell_at (fun vs H Q E h => ?_) (fun cdv A outer s H vs Q E hr h => ?_)
  · obtain ⟨a, ns, k, rfl, _⟩ := h
    rfl
  · obtain ⟨a, ns, k, rfl, hs, h0, q⟩ := h
    refine ⟨_, (pss_cons (ps_if (pt_cmpR op_lt (pv 1) (pe_len B (pv 0)) (nomark _))
      (pss_one (ps_ret (pe_ix ix_list (pv 0) (pv 1) (fun _ _ => rfl))))
      pss_nil)
      (pss_one (ps_ret pe_int))), ?_⟩
    refine ⟨_, rfl, _, rfl, a, _, rfl, .inl hs, _, _, rfl, rfl, _, rfl, ?_⟩
    refine ite2 (fun c => ?_) (fun c => ?_)
    · have lt := of_decide_eq_true c
      rw [List.length_map] at lt
      have hk : k.toNat < ns.length := by omega
      refine ⟨_, rfl, _, rfl, a, _, _, _, rfl, rfl, hs, at_of (j := k.toNat) (by omega) (map_at (List.getElem?_eq_getElem hk)), q _⟩
    · exact q 0
def spDraws : Sp := fun vs H Q _ => ∃ (cell : Int), vs = [.int cell, .int 400, .int 1000] ∧ ∀ (l : Addr) (ns : List Int) (H' : Hp), Same H H' → H l = none → H' l = some (.lst (ns.map V.int)) → ns.length = 400 → (∀ n ∈ ns, 0 ≤ n ∧ n < 1000) → Q (.ref l) H'
theorem sc_law_draws : FnScope ["cell", "many", "size", "found", "rest", "stirred", "k"] ["cell", "many", "size"] (defScope s_law_draws) := ⟨rfl, rfl, rfl, by decide +kernel, rfl, by decide +kernel, by decide +kernel⟩
theorem ok_draws {f : Addr} {fd : FuncData} (F : L2.Fun K "_law_draws" "_law_draws" s_law_draws f fd) (B : Bls mg) : FnOk P w K mg base L2.CX0 1 f fd ["cell", "many", "size"] spDraws := by
  refine F.ok sc_law_draws (fun vs H Q E h => ?_) (fun cdv A outer s H vs Q E hr h => ?_)
  · obtain ⟨cell, rfl, _⟩ := h
    rfl
  · obtain ⟨cell, rfl, q⟩ := h
    refine ⟨_, (pss_cons (ps_set (i := 3) sc_law_draws.nd rfl (Or.inl rfl) (pe_lst pa_nil))
      (pss_cons (ps_set (i := 4) sc_law_draws.nd rfl (Or.inl rfl) (pe_op op_mul (pv 0) (pe_callTy call_int1 (by rfl) B.int (by decide +kernel) (pa_cons (pe_cmpR op_ge (pv 0) (pe_op op_pow pe_int pe_int) (nomark _)) pa_nil))))
      (pss_cons (ps_set (i := 5) sc_law_draws.nd rfl (Or.inl rfl) (pe_op op_mod (pv 0) pe_int))
      (pss_cons (ps_for PassesOwn.never rfl (pi_range1 (by rfl) B.range (pa_cons (pe_op op_add (pv 1) pe_int) pa_nil)) (pg_name (i := 6) sc_law_draws.nd rfl (Or.inl rfl))
      (pss_cons (ps_set (i := 5) sc_law_draws.nd rfl (Or.inl rfl) (pe_op op_mod (pe_op op_add (pe_op op_add (pe_op op_add (pe_op op_mul (pv 5) (pv 5)) (pe_op op_mul pe_int (pv 5))) (pv 6)) pe_int) pe_int))
      (pss_one (ps_if (PW.pt (pw_and (pt_cmpR op_gt (pv 6) pe_int (nomark _)) (pw_and1 (pt_cmpR op_gt (pv 4) pe_int (nomark _)))))
      (pss_cons (ps_expr (pe_bm PySem.F.plainAttrs_list PySem.F.slot_list_append PySem.F.type_list_append mt_append (pv 3) (pa_cons (pe_op op_mod (pv 4) (pv 2)) pa_nil)))
      (pss_one (ps_set (i := 4) sc_law_draws.nd rfl (Or.inl rfl) (pe_op op_fdiv (pv 4) (pv 2)))))
      (pss_one (ps_if (pt_cmpR op_gt (pv 6) pe_int (nomark _))
      (pss_one (ps_expr (pe_bm PySem.F.plainAttrs_list PySem.F.slot_list_append PySem.F.type_list_append mt_append (pv 3) (pa_cons (pe_op op_mod (pe_op op_fdiv (pv 5) pe_int) (pv 2)) pa_nil))))
      pss_nil))))))
      (pss_one (ps_ret (pv 3))))))), ?_⟩
    refine ⟨Nat.zero_le _, fun l hl => ?_⟩
    refine ⟨_, rfl, _, rfl, _, _, rfl, rfl, ⟨by decide, by decide, by decide⟩, _, _, rfl, rfl, .inr ⟨_, rfl, _, _, rfl, rfl, .inr ?_, ?_⟩⟩
    · split <;> exact ⟨by decide, by decide⟩
    refine ⟨_, rfl, _, _, rfl, rfl, by show (0 : Int) < 2305843009213693951; decide, ?_⟩
    have e0 := Int.emod_nonneg cell (show (2305843009213693951 : Int) ≠ 0 by decide)
    have e1 := Int.emod_lt_of_pos cell (show (0 : Int) < 2305843009213693951 by decide)
    refine ⟨_, rfl, _, _, rfl, rfl, _, rfl, by decide, by decide, for_range (lo := 0) (n := (403 : Int).toNat) (fun i σ H' => ∃ (rest stirred : Int) (v : Option V) (ns : List Int), σ = [some (.int cell), some (.int 400), some (.int 1000), some (.ref l), some (.int rest), some (.int stirred), v] ∧
      (∀ b o, H b = some o → H' b = some o) ∧ H' l = some (.lst (ns.map V.int)) ∧ ns.length = i - 3 ∧ (∀ n ∈ ns, 0 ≤ n ∧ n < 1000) ∧ 0 ≤ stirred ∧ stirred < 2305843009213693951)
      ⟨_, _, none, [], rfl, same_upd hl, upd_same, rfl, (fun n hn => by cases hn), e0, e1⟩ ?_ ?_⟩
    · rintro i σ H' hi ⟨rest, stirred, v, ns, rfl, sm, hq, hlen, hns, s0, s1⟩
      have hi' : i < 403 := hi
      refine ⟨_, rfl, _, rfl, _, _, rfl, rfl, .inl ⟨by omega, by omega⟩, _, rfl, _, _, rfl, rfl, .inl ⟨by decide, by decide⟩, _, _, rfl, rfl, _, rfl, _, _, rfl, rfl, _, _, rfl, rfl, _, _, rfl, rfl, by show (0 : Int) < 2305843009213693951; decide, ?_⟩
      have t0 := Int.emod_nonneg (stirred * stirred + 48271 * stirred + (0 + (i : Int)) + 1) (show (2305843009213693951 : Int) ≠ 0 by decide)
      have t1 := Int.emod_lt_of_pos (stirred * stirred + 48271 * stirred + (0 + (i : Int)) + 1) (show (0 : Int) < 2305843009213693951 by decide)
      -- one more is put down
      have more : ∀ (z : Int), 0 ≤ z → z < 1000 → 3 ≤ i → (∀ b o, H b = some o → (upd H' l (.lst (ns.map V.int ++ [V.int z]))) b = some o) ∧ (upd H' l (.lst (ns.map V.int ++ [V.int z]))) l = some (.lst ((ns ++ [z]).map V.int)) ∧ (ns ++ [z]).length = i + 1 - 3 ∧ ∀ n ∈ ns ++ [z], 0 ≤ n ∧ n < 1000 := fun z z0 z1 h3 => by
        refine ⟨fun b o e => ?_, ?_, ?_, fun n hn => ?_⟩
        · rw [upd_ne (ne_of_none e hl)]
          exact sm b o e
        · rw [upd_same, List.map_append]
          rfl
        · rw [List.length_append, List.length_singleton]
          omega
        · rcases List.mem_append.mp hn with hn | hn
          · exact hns n hn
          · have : n = z := by simpa using hn
            rw [this]; exact ⟨z0, z1⟩
      have hz : (ns.map V.int).length < sizeLine := by rw [List.length_map]; exact small1000 (by omega)
      have m0 : ∀ z : Int, 0 ≤ z % 1000 ∧ z % 1000 < 1000 := fun z => ⟨Int.emod_nonneg _ (by decide), Int.emod_lt_of_pos _ (by decide)⟩
      refine ⟨_, rfl, _, _, rfl, rfl, _, rfl, ?_⟩
      refine ite2 (fun c1 => ?_) (fun c1 => ?_)
      · have i3 : 3 ≤ i := by have := of_decide_eq_true c1; omega
        refine ⟨_, rfl, _, _, rfl, rfl, _, rfl, ?_⟩
        refine ite2 (fun c2 => ?_) (fun c2 => ?_)
        · refine ⟨_, rfl, .inl ⟨rfl, _, SqL.of hq⟩, _, rfl, _, rfl, _, _, rfl, rfl, by show (0 : Int) < 1000; decide, l, _, _, rfl, rfl, hq, hz, ?_⟩
          refine ⟨_, rfl, _, rfl, _, _, rfl, rfl, ⟨by decide, by decide⟩, ?_⟩
          obtain ⟨m1, m2, m3, m4⟩ := more _ (m0 rest).1 (m0 rest).2 i3
          exact ⟨_, _, _, _, rfl, m1, m2, m3, m4, t0, t1⟩
        · refine ⟨_, rfl, _, _, rfl, rfl, _, rfl, ?_⟩
          rw [c1]
          refine iteT ⟨_, rfl, .inl ⟨rfl, _, SqL.of hq⟩, _, rfl, _, _, rfl, rfl, ⟨by decide, by decide⟩, _, rfl, _, _, rfl, rfl, by show (0 : Int) < 1000; decide, l, _, _, rfl, rfl, hq, hz, ?_⟩
          obtain ⟨m1, m2, m3, m4⟩ := more _ (m0 ((stirred * stirred + 48271 * stirred + (0 + (i : Int)) + 1) % 2305843009213693951 / 4096)).1 (m0 ((stirred * stirred + 48271 * stirred + (0 + (i : Int)) + 1) % 2305843009213693951 / 4096)).2 i3
          exact ⟨_, _, _, _, rfl, m1, m2, m3, m4, t0, t1⟩
      · have i3 : i < 3 := by
          have : ¬ ((2 : Int) < 0 + (i : Int)) := fun z => c1 (decide_eq_true z)
          omega
        refine ⟨_, rfl, _, _, rfl, rfl, _, rfl, ?_⟩
        rw [Bool.eq_false_iff.mpr c1]
        exact iteF ⟨_, _, _, ns, rfl, sm, hq, by omega, hns, t0, t1⟩
    · rintro σ H' ⟨rest, stirred, v, ns, rfl, sm, hq, hlen, hns, _⟩
      exact ⟨_, rfl, q l ns H' sm hl hq hlen hns⟩
def spBag (K : PySem.W.Frag) : Sp := fun vs H Q _ => ∃ (a : Addr) (ns : List Int) (k : Int), vs = [.ref a, .int k] ∧ SqL K H a (ns.map V.int) ∧ 0 ≤ k ∧ ∀ (b : Addr) (H' : Hp), Same H H' → H b = none → BagAt K H' b → Q (.ref b) H'
theorem sc_law_bag : FnScope ["script", "k"] ["script", "k"] (defScope s_law_bag) := ⟨rfl, rfl, rfl, by decide +kernel, rfl, by decide +kernel, by decide +kernel⟩
theorem ok_bag {f : Addr} {fd : FuncData} (F : L2.Fun K "_law_bag" "_law_bag" s_law_bag f fd) (c_law_cell_at : Cal P w K mg base 1 "_law_cell_at" (spCell K)) (c_law_draws : Cal P w K mg base 1 "_law_draws" spDraws) : FnOk P w K mg base L2.CX0 2 f fd ["script", "k"] (spBag K) := by
  refine F.ok sc_law_bag (fun vs H Q E h => ?_) (fun cdv A outer s H vs Q E hr h => ?_)
  · obtain ⟨a, ns, k, rfl, _⟩ := h
    rfl
  · obtain ⟨a, ns, k, rfl, hs, h0, q⟩ := h
    refine ⟨_, (pss_one (ps_ret (pe_lst (pa_cons (pe_g c_law_draws hr (pa_cons (pe_g c_law_cell_at hr (pa_cons (pv 0) (pa_cons (pv 1) pa_nil))) (pa_cons pe_int (pa_cons pe_int pa_nil)))) (pa_cons pe_int pa_nil))))), ?_⟩
    refine ⟨_, rfl, _, rfl, a, ns, k, rfl, hs, h0, fun z => ⟨z, rfl, fun l ms H1 s1 nl hl hm hms => ?_⟩⟩
    refine ⟨by show 2 ≤ sizeLine; decide, fun b hb => ?_⟩
    exact q b _ (s1.trans (same_upd hb)) (s1.free hb) ⟨l, 0, ms, upd_same, by decide, SqL.of (same_upd hb _ _ hl), hm, hms⟩
def spBags (K : PySem.W.Frag) : Sp := fun vs H Q _ => ∃ (a : Addr) (ns : List Int) (n : Int), vs = [.ref a, .int n] ∧ SqL K H a (ns.map V.int) ∧ 1 ≤ n ∧ n ≤ 100 ∧
  ∀ (l : Addr) (bs : List Addr) (H' : Hp), Same H H' → H l = none → H' l = some (.lst (bs.map V.ref)) → (∀ b ∈ bs, BagAt K H' b) → Q (.ref l) H'
theorem sc_law_bags : FnScope ["script", "limit", "k"] ["script", "limit"] (defScope s_law_bags) := ⟨rfl, rfl, rfl, by decide +kernel, rfl, by decide +kernel, by decide +kernel⟩
theorem ok_bags {f : Addr} {fd : FuncData} (F : L2.Fun K "_law_bags" "_law_bags" s_law_bags f fd) (B : Bls mg) (c_law_bag : Cal P w K mg base 2 "_law_bag" (spBag K)) : FnOk P w K mg base L2.CX0 3 f fd ["script", "limit"] (spBags K) := by
  refine F.ok sc_law_bags (fun vs H Q E h => ?_) (fun cdv A outer s H vs Q E hr h => ?_)
  · obtain ⟨a, ns, n, rfl, _⟩ := h
    rfl
  · obtain ⟨a, ns, n, rfl, hs, h1, h2, q⟩ := h
    refine ⟨_, (pss_one (ps_ret (pe_lc (own := [("k", 2)]) (g := gName 2)  (tt := tYes) (by rfl) sc_law_bags.nd (pi_range1 (by rfl) B.range (pa_cons (pe_callB (call_max2 rfl) (by rfl) B.max (by decide +kernel) (pa_cons pe_int (pa_cons (pe_callB (call_min2 rfl) (by rfl) B.min (by decide +kernel) (pa_cons (pv 1) (pa_cons (pe_len B (pv 0)) pa_nil))) pa_nil))) pa_nil)) (blkOk_by (own := [("k", 2)]) (N := ["script", "limit", "k"]) (sc := defScope s_law_bags) (by decide +kernel)) (fun _ _ _ _ _ => by exact (pg_name (i := 2) sc_law_bags.nd rfl (Or.inl rfl))) (fun _ _ _ _ _ => by exact pts_nil) (fun _ _ _ _ _ => by exact (pe_g c_law_bag hr (pa_cons (pv 0) (pa_cons (pv 2) pa_nil))))))), ?_⟩
    refine ⟨_, rfl, _, rfl, a, _, rfl, .inl hs, _, _, rfl, _, _, rfl, _, rfl, ?_, ?_, fun D hD => ?_⟩
    · split <;> split <;> omega
    · split <;> split <;> omega
    refine lc_range (lo := 0) (n := Int.toNat _) (fun i H' => Same H H' ∧ ∃ bs : List Addr, H' D = some (.lst (bs.map V.ref)) ∧ bs.length = i ∧ ∀ b ∈ bs, BagAt K H' b) ⟨same_upd hD, [], upd_same, rfl, (fun b hb => by cases hb)⟩ ?_ ?_
    · rintro i H' hi ⟨sm, bs, hb, hl, hba⟩
      have i100 : i < 100 := by
        have e : ∀ m : Int, i < m.toNat → m ≤ 100 → i < 100 := fun m q1 q2 => by omega
        refine e _ hi ?_
        split <;> split <;> omega
      refine ⟨rfl, ?_⟩
      refine ⟨_, rfl, _, rfl, a, ns, _, rfl, sm.seq hs, by omega, fun b H1 s1 nb Ba => ⟨_, s1 _ _ hb, by rw [List.length_map]; exact small1000 (by omega), fun c o e => ?_, bs ++ [b], ?_, by rw [List.length_append, hl]; rfl, fun c hc => ?_⟩⟩
      · rw [upd_ne (ne_of_none e hD)]
        exact s1 _ _ (sm c o e)
      · rw [upd_same, List.map_append]
        rfl
      · have ev : Evo H1 (upd H1 D (.lst (bs.map V.ref ++ [V.ref b]))) → BagAt K (upd H1 D (.lst (bs.map V.ref ++ [V.ref b]))) c := fun ev => by
          rcases List.mem_append.mp hc with hc | hc
          · exact ((hba c hc).evo (Same.evo s1)).evo ev
          · have : c = b := by simpa using hc
            rw [this]; exact Ba.evo ev
        -- the new list is none that a bag stands on
        obtain ⟨l, i0, ms, g1, g2, g3, g4, g5⟩ : BagAt K H1 c := by
          rcases List.mem_append.mp hc with hc | hc
          · exact (hba c hc).evo (Same.evo s1)
          · have : c = b := by simpa using hc
            rw [this]; exact Ba
        have hb1 := s1 _ _ hb
        have ncD : c ≠ D := ne_of g1 hb1 (fun z => by
          have z' : [V.ref l, V.int i0] = bs.map V.ref := HO.lst.inj z
          exact refs_no l i0 z'.symm)
        refine ⟨l, i0, ms, by rw [upd_ne ncD]; exact g1, g2, ?_, g4, g5⟩
        rcases g3 with (g3 | ⟨o, g3⟩) | g3
        · have nlD : l ≠ D := fun z => by
            rw [z, hb1] at g3
            have z' : bs.map V.ref = ms.map V.int := HO.lst.inj (Option.some.inj g3)
            cases ms with
            | nil => simp at g4
            | cons _ _ =>
              cases bs with
              | nil => cases z'
              | cons _ _ => cases z'
          exact .inl (.inl (by rw [upd_ne nlD]; exact g3))
        · have nlD : l ≠ D := ne_of g3 hb1 (by intro z; cases z)
          exact .inl (.inr ⟨o, by rw [upd_ne nlD]; exact g3⟩)
        · exact .inr g3
    · rintro H' ⟨sm, bs, hb, hl, hba⟩
      exact q D bs H' sm hD hb hba
end
end Lp
namespace Lp
open PySem PySem.Spec PyProof.Rows L2
theorem evo_bag {H : Hp} {b l : Addr} {i j : Int} (h : H b = some (.lst [.ref l, .int i])) (hj : 0 ≤ j) : Evo H (upd H b (.lst [.ref l, .int j])) := fun a o e => by
  by_cases q : a = b
  · rw [q, h] at e
    cases e
    rw [q]
    exact .inr ⟨l, i, j, rfl, upd_same, fun _ => hj⟩
  · exact .inl (by rw [upd_ne q]; exact e)
section
variable {P : Program} {w : World} {K : PySem.W.Frag} {mg : Str → Option Value} {base : Heap}
def spTake (K : PySem.W.Frag) : Sp := fun vs H Q _ => ∃ (b : Addr) (m : Int), vs = [.ref b, .int m] ∧ BagAt K H b ∧ 0 < m ∧ ∀ (z : Int) (H' : Hp), Evo H H' → 0 ≤ z → z < m → Q (.int z) H'
theorem sc_law_take : FnScope ["bag", "many"] ["bag", "many"] (defScope s_law_take) := ⟨rfl, rfl, rfl, by decide +kernel, rfl, by decide +kernel, by decide +kernel⟩
theorem ok_take {f : Addr} {fd : FuncData} (F : L2.Fun K "_law_take" "_law_take" s_law_take f fd) (B : Bls mg) : FnOk P w K mg base L2.CX0 1 f fd ["bag", "many"] (spTake K) := by
  refine F.ok sc_law_take (fun vs H Q E h => ?_) (fun cdv A outer s H vs Q E hr h => ?_)
  · obtain ⟨b, m, rfl, _⟩ := h
    rfl
  · obtain ⟨b, m, rfl, ⟨l, i, ns, hb, i0, hs, hl, hns⟩, m0, q⟩ := h
    refine ⟨_, (pss_cons (ps_asg (pe_op op_add (pe_ix ix_list (pv 0) pe_int (fun _ _ => rfl)) pe_int) (pg_sub (pv 0) pe_int set_list))
      (pss_one (ps_ret (pe_op op_mod (pe_ix ix_list (pe_ix ix_list (pv 0) pe_int (fun _ _ => rfl)) (pe_op op_mod (pe_ix ix_list (pv 0) pe_int (fun _ _ => rfl)) (pe_len B (pe_ix ix_list (pv 0) pe_int (fun _ _ => rfl)))) (fun _ _ => rfl)) (pv 1))))), ?_⟩
    refine ⟨_, rfl, b, _, _, _, rfl, rfl, SqL.of hb, rfl, _, _, rfl, rfl, _, rfl, b, _, _, _, rfl, rfl, hb, rfl, ?_⟩
    have ev : Evo H (upd H b (.lst [.ref l, .int (i + 1)])) := evo_bag hb (by omega)
    have hb' : SqL K (upd H b (.lst [.ref l, .int (i + 1)])) b [.ref l, .int (i + 1)] := SqL.of upd_same
    have hs' := ev.ints hs
    have n0 := Int.emod_nonneg (i + 1) (show ((ns.map V.int).length : Int) ≠ 0 by rw [List.length_map]; omega)
    have n1 := Int.emod_lt_of_pos (i + 1) (show (0 : Int) < ((ns.map V.int).length : Int) by rw [List.length_map]; omega)
    have nk : ((i + 1) % ((ns.map V.int).length : Int)).toNat < ns.length := by rw [List.length_map] at n1 n0 ⊢; omega
    refine ⟨_, rfl, b, _, _, _, rfl, rfl, hb', rfl, _, rfl, b, _, _, _, rfl, rfl, hb', rfl, _, rfl, b, _, _, _, rfl, rfl, hb', rfl, l, _, rfl, .inl hs', _, _, rfl, rfl, by rw [List.length_map]; omega, ?_⟩
    refine ⟨l, _, _, _, rfl, rfl, hs', at_of (j := ((i + 1) % ((ns.map V.int).length : Int)).toNat) (by omega) (map_at (List.getElem?_eq_getElem nk)), _, rfl, _, _, rfl, rfl, m0, ?_⟩
    exact q _ _ ev (Int.emod_nonneg _ (by omega)) (Int.emod_lt_of_pos _ m0)
def spFar (K : PySem.W.Frag) : Sp := fun vs H Q _ => ∃ (b : Addr) (m : Int), vs = [.ref b, .int m] ∧ BagAt K H b ∧ 0 < m ∧ ∀ (z : Int) (H' : Hp), Evo H H' → 0 ≤ z → z < m → Q (.int z) H'
theorem sc_law_far_draw : FnScope ["bag", "many", "found", "much"] ["bag", "many"] (defScope s_law_far_draw) := ⟨rfl, rfl, rfl, by decide +kernel, rfl, by decide +kernel, by decide +kernel⟩
theorem ok_far {f : Addr} {fd : FuncData} (F : L2.Fun K "_law_far_draw" "_law_far_draw" s_law_far_draw f fd) (B : Bls mg) (c_law_take : Cal P w K mg base 1 "_law_take" (spTake K)) : FnOk P w K mg base L2.CX0 2 f fd ["bag", "many"] (spFar K) := by
  refine F.ok sc_law_far_draw (fun vs H Q E h => ?_) (fun cdv A outer s H vs Q E hr h => ?_)
  · obtain ⟨b, m, rfl, _⟩ := h
    rfl
  · obtain ⟨b, m, rfl, ba, m0, q⟩ := h
    refine ⟨_, (pss_cons (ps_par (i := 2) (j := 3) (by rfl) sc_law_far_draw.nd rfl rfl (by decide) rfl rfl (pa_cons pe_int (pa_cons (pv 1) pa_nil)) (by rfl))
      (pss_cons (ps_while PassesOwn.never (pt_cmpR op_gt (pv 3) pe_int (nomark _))
      (pss_one (ps_par (i := 2) (j := 3) (by rfl) sc_law_far_draw.nd rfl rfl (by decide) rfl rfl (pa_cons (pe_op op_add (pe_op op_mul pe_int (pv 2)) (pe_g c_law_take hr (pa_cons (pv 0) (pa_cons pe_int pa_nil)))) (pa_cons (pe_op op_fdiv (pv 3) pe_int) pa_nil)) (by rfl))))
      (pss_one (ps_ret (pe_ix ix_list (pe_lst (pa_cons (pe_op op_mod (pv 2) (pv 1)) (pa_cons pe_int (pa_cons (pe_op op_sub (pv 1) pe_int) (pa_cons (pe_op op_mod (pv 2) (pv 1)) pa_nil))))) (pe_g c_law_take hr (pa_cons (pv 0) (pa_cons pe_int pa_nil))) (fun _ _ => rfl)))))), ?_⟩
    refine ⟨_, rfl, _, _, rfl, ?_⟩
    refine ⟨fun k σ H' => ∃ found much : Int, σ = [some (.ref b), some (.int m), some (.int found), some (.int much)] ∧ Evo H H' ∧ k = much.toNat, ⟨_, 0, m, rfl, Evo.refl H, rfl⟩, ?_⟩
    rintro k σ H' ⟨found, much, rfl, ev, rfl⟩
    refine ⟨_, rfl, _, _, rfl, rfl, _, rfl, ?_⟩
    refine ite2 (fun c => ?_) (fun c => ?_)
    · have pos := of_decide_eq_true c
      refine ⟨fun σ' H'' => ∃ m', m' < much.toNat ∧ ∃ found much : Int, σ' = [some (.ref b), some (.int m), some (.int found), some (.int much)] ∧ Evo H H'' ∧ m' = much.toNat, fun _ _ h => h, ?_⟩
      refine ⟨_, rfl, _, _, rfl, rfl, .inl ⟨by decide, by decide⟩, _, rfl, b, _, rfl, ba.evo ev, by decide, fun z H2 e2 z0 z1 => ⟨_, _, rfl, rfl, _, rfl, _, _, rfl, rfl, ⟨by decide, by decide⟩, _, _, rfl, ?_⟩⟩
      refine ⟨(much / 1000).toNat, ?_, _, _, rfl, ev.trans e2, rfl⟩
      have : much / 1000 < much := by omega
      omega
    · have md : ∀ z : Int, 0 ≤ z % m ∧ z % m < m := fun z => ⟨Int.emod_nonneg _ (by omega), Int.emod_lt_of_pos _ m0⟩
      refine ⟨_, rfl, _, rfl, _, _, rfl, rfl, m0, _, rfl, _, _, rfl, rfl, _, rfl, _, rfl, _, _, rfl, rfl, m0, by show 4 ≤ sizeLine; decide, fun p hp => ?_⟩
      have s1 : Same H' (upd H' p (.lst [.int (found % m), .int 0, .int (m - 1), .int (found % m)])) := same_upd hp
      refine ⟨_, rfl, b, _, rfl, (ba.evo ev).evo (Same.evo s1), by decide, fun z H2 e2 z0 z1 => ?_⟩
      have hl : H2 p = some (.lst ([found % m, 0, m - 1, found % m].map V.int)) := e2.intsH (ns := [found % m, 0, m - 1, found % m]) upd_same
      have e3 : Evo H H2 := (ev.trans (Same.evo s1)).trans e2
      have zk : z.toNat < [found % m, 0, m - 1, found % m].length := by show z.toNat < 4; omega
      refine ⟨p, _, _, _, rfl, rfl, SqL.of hl, at_of (j := z.toNat) (by omega) (map_at (List.getElem?_eq_getElem zk)), ?_⟩
      have bd : ∀ y ∈ [found % m, 0, m - 1, found % m], 0 ≤ y ∧ y < m := fun y hy => by
        have := md found
        simp only [List.mem_cons, List.not_mem_nil, or_false] at hy
        omega
      have := bd _ (List.getElem_mem zk)
      exact q _ _ e3 this.1 this.2
end
end Lp
namespace Lp
open PySem PySem.Spec PyProof.Rows L2
/-- what is drawn below a bound -/
def Lim (far : Int) (t : List Guest) : Prop := ∀ g ∈ t, 0 ≤ g.1 ∧ (g.1 < far ∨ g.1 < 4) ∧ ∀ m, g.2 = some m → 0 ≤ m ∧ (m < far ∨ m < 6)
theorem evo_kept {H H1 : Hp} {l : Addr} {o : HO} (e : Evo H H1) (hl : H l = none) : Evo H (upd H1 l o) := fun a u h => by
  have : a ≠ l := ne_of_none h hl
  rw [upd_ne this]
  exact e a u h
theorem Lim.ok {far : Int} {t : List Guest} (h : Lim far t) (hf : far ≤ 1000000000000000001) (h1 : 1 ≤ t.length) (h8 : t.length ≤ 8) : TabOk t := ⟨h1, h8, fun g hg => by
  obtain ⟨a, b, c⟩ := h g hg
  refine ⟨a, by omega, fun m hm => ?_⟩
  obtain ⟨d, e⟩ := c m hm
  exact ⟨d, by omega⟩⟩
section
variable {P : Program} {w : World} {K : PySem.W.Frag} {mg : Str → Option Value} {base : Heap}
def spLawTable (K : PySem.W.Frag) : Sp := fun vs H Q _ => ∃ (b : Addr) (seats far : Int), vs = [.ref b, .int seats, .int far] ∧ BagAt K H b ∧ 0 < seats ∧ seats ≤ 8 ∧ 0 < far ∧
  ∀ (a : Addr) (t : List Guest) (H' : Hp), Evo H H' → TableAt K H' a t → 1 ≤ t.length → (t.length : Int) ≤ seats → Lim far t → Q (.ref a) H'
theorem sc_law_table : FnScope ["bag", "seats", "far", "found", "same", "turn", "courtesy", "enough"] ["bag", "seats", "far"] (defScope s_law_table) := ⟨rfl, rfl, rfl, by decide +kernel, rfl, by decide +kernel, by decide +kernel⟩
theorem ok_ltable {f : Addr} {fd : FuncData} (F : L2.Fun K "_law_table" "_law_table" s_law_table f fd) (B : Bls mg) (c_law_take : Cal P w K mg base 1 "_law_take" (spTake K)) (c_law_far_draw : Cal P w K mg base 2 "_law_far_draw" (spFar K)) : FnOk P w K mg base L2.CX0 3 f fd ["bag", "seats", "far"] (spLawTable K) := by
  refine F.ok sc_law_table (fun vs H Q E h => ?_) (fun cdv A outer s H vs Q E hr h => ?_)
  · obtain ⟨b, seats, far, rfl, _⟩ := h
    rfl
  · obtain ⟨b, seats, far, rfl, ba, p0, p8, pf, q⟩ := h
    refine ⟨_, (pss_cons (ps_par (i := 3) (j := 4) (by rfl) sc_law_table.nd rfl rfl (by decide) rfl rfl (pa_cons (pe_lst pa_nil) (pa_cons (pe_g c_law_far_draw hr (pa_cons (pv 0) (pa_cons (pv 2) pa_nil))) pa_nil)) (by rfl))
      (pss_cons (ps_for PassesOwn.never rfl (pi_range1 (by rfl) B.range (pa_cons (pe_op op_add pe_int (pe_g c_law_take hr (pa_cons (pv 0) (pa_cons (pv 1) pa_nil)))) pa_nil)) (pg_name (i := 5) sc_law_table.nd rfl (Or.inl rfl))
      (pss_cons (ps_set (i := 6) sc_law_table.nd rfl (Or.inl rfl) (pe_ix ix_list (pe_lst (pa_cons pe_int (pa_cons (pe_g c_law_take hr (pa_cons (pv 0) (pa_cons pe_int pa_nil))) (pa_cons (pe_g c_law_far_draw hr (pa_cons (pv 0) (pa_cons (pv 2) pa_nil))) (pa_cons (pv 4) pa_nil))))) (pe_g c_law_take hr (pa_cons (pv 0) (pa_cons pe_int pa_nil))) (fun _ _ => rfl)))
      (pss_cons (ps_set (i := 7) sc_law_table.nd rfl (Or.inl rfl) (pe_ix ix_list (pe_lst (pa_cons pe_non (pa_cons pe_non (pa_cons (pe_g c_law_far_draw hr (pa_cons (pv 0) (pa_cons (pv 2) pa_nil))) (pa_cons (pe_g c_law_take hr (pa_cons (pv 0) (pa_cons pe_int pa_nil))) pa_nil))))) (pe_g c_law_take hr (pa_cons (pv 0) (pa_cons pe_int pa_nil))) (fun _ _ => rfl)))
      (pss_one (ps_expr (pe_bm PySem.F.plainAttrs_list PySem.F.slot_list_append PySem.F.type_list_append mt_append (pv 3) (pa_cons (pe_tup (pa_cons (pv 6) (pa_cons (pv 7) pa_nil))) pa_nil)))))))
      (pss_one (ps_ret (pe_callTy call_tuple_of (by rfl) B.tuple (by decide +kernel) (pa_cons (pv 3) pa_nil)))))), ?_⟩
    -- found, same
    refine ⟨Nat.zero_le _, fun l hl => ?_⟩
    have e0 : Evo H (upd H l (.lst [])) := evo_kept (Evo.refl H) hl
    refine ⟨_, rfl, _, rfl, b, far, rfl, ba.evo e0, pf, fun same H1 e1 s0 s1 => ⟨_, _, rfl, ?_⟩⟩
    have hl1 : H1 l = some (.lst (([] : List Addr).map V.ref)) := e1.refsH (ps := []) upd_same
    -- for turn in range(1 + ..)
    refine ⟨_, rfl, _, rfl, b, seats, rfl, ba.evo (e0.trans e1), p0, fun n H2 e2 n0 n1 => ⟨_, _, rfl, rfl, _, rfl, by omega, by omega, ?_⟩⟩
    refine for_range (lo := 0) (n := (1 + n).toNat) (fun i σ H' => ∃ (ps : List Addr) (t : List Guest) (v5 v6 v7 : Option V), σ = [some (.ref b), some (.int seats), some (.int far), some (.ref l), some (.int same), v5, v6, v7] ∧ Evo H H' ∧
      H' l = some (.lst (ps.map V.ref)) ∧ ps.length = t.length ∧ (∀ (i : Nat) (g : Guest) (p : Addr), t[i]? = some g → ps[i]? = some p → H' p = some (.tup [.int g.1, optV g.2])) ∧ t.length = i ∧ Lim far t)
      ⟨[], [], none, none, none, rfl, (e0.trans e1).trans e2, e2.refsH hl1, rfl, (fun i g p h => by cases h), rfl, (fun g h => by cases h)⟩ ?_ ?_
    · rintro i σ H3 hi ⟨ps, t, v5, v6, v7, rfl, e3, hl3, hpt, hg, ht, lim⟩
      -- courtesy
      refine ⟨_, rfl, b, 4, rfl, ba.evo e3, by decide, fun c1 H4 e4 c10 c11 => ?_⟩
      have e34 := e3.trans e4
      refine ⟨_, rfl, _, rfl, b, far, rfl, ba.evo e34, pf, fun c2 H5 e5 c20 c21 => ?_⟩
      have e35 := e34.trans e5
      refine ⟨_, rfl, by show 4 ≤ sizeLine; decide, fun x hx => ?_⟩
      have sx : Same H5 (upd H5 x (.lst [.int 0, .int c1, .int c2, .int same])) := same_upd hx
      have e36 := e35.trans (Same.evo sx)
      refine ⟨_, rfl, b, 4, rfl, ba.evo e36, by decide, fun z H6 e6 z0 z1 => ?_⟩
      have hx6 : H6 x = some (.lst ([0, c1, c2, same].map V.int)) := e6.intsH (ns := [0, c1, c2, same]) upd_same
      have zk : z.toNat < [0, c1, c2, same].length := by show z.toNat < 4; omega
      refine ⟨x, _, _, _, rfl, rfl, SqL.of hx6, at_of (j := z.toNat) (by omega) (map_at (List.getElem?_eq_getElem zk)), ?_⟩
      have cb : ∀ y ∈ [0, c1, c2, same], 0 ≤ y ∧ (y < far ∨ y < 4) := fun y hy => by
        simp only [List.mem_cons, List.not_mem_nil, or_false] at hy
        omega
      have cy := cb _ (List.getElem_mem zk)
      generalize [0, c1, c2, same][z.toNat] = cc at cy
      have e37 := e36.trans e6
      have hl6 : H6 l = some (.lst (ps.map V.ref)) := e6.refsH ((Same.evo sx).refsH (e5.refsH (e4.refsH hl3)))
      have t6 : ∀ (p : Addr) (xs : List V), H3 p = some (.tup xs) → H6 p = some (.tup xs) := fun p xs h => e6.tupH ((Same.evo sx).tupH (e5.tupH (e4.tupH h)))
      -- enough
      refine ⟨_, rfl, _, rfl, b, far, rfl, ba.evo e37, pf, fun c3 H7 e7 c30 c31 => ?_⟩
      have e38 := e37.trans e7
      refine ⟨_, rfl, b, 6, rfl, ba.evo e38, by decide, fun c4 H8 e8 c40 c41 => ?_⟩
      have e39 := e38.trans e8
      refine ⟨by show 4 ≤ sizeLine; decide, fun y hy => ?_⟩
      have sy : Same H8 (upd H8 y (.lst [.non, .non, .int c3, .int c4])) := same_upd hy
      have e40 := e39.trans (Same.evo sy)
      refine ⟨_, rfl, b, 4, rfl, ba.evo e40, by decide, fun u H9 e9 u0 u1 => ?_⟩
      have hy9 : H9 y = some (.lst ([none, none, some c3, some c4].map optV)) := e9.keep upd_same fun _ _ z => by have := HO.lst.inj z; cases this
      have uk : u.toNat < [none, none, some c3, some c4].length := by show u.toNat < 4; omega
      refine ⟨y, _, _, _, rfl, rfl, SqL.of hy9, at_of (j := u.toNat) (by omega) (map_at (List.getElem?_eq_getElem uk)), ?_⟩
      have eb : ∀ o ∈ [none, none, some c3, some c4], ∀ m, o = some m → 0 ≤ m ∧ (m < far ∨ m < 6) := fun o ho m hm => by
        simp only [List.mem_cons, List.not_mem_nil, or_false] at ho
        rcases ho with h | h | h | h <;> rw [h] at hm <;> cases hm <;> omega
      have ey := eb _ (List.getElem_mem uk)
      generalize [none, none, some c3, some c4][u.toNat] = ee at ey
      have e41 := e40.trans e9
      have hl9 : H9 l = some (.lst (ps.map V.ref)) := e9.refsH ((Same.evo sy).refsH (e8.refsH (e7.refsH hl6)))
      have t9 : ∀ (p : Addr) (xs : List V), H3 p = some (.tup xs) → H9 p = some (.tup xs) := fun p xs h => e9.tupH ((Same.evo sy).tupH (e8.tupH (e7.tupH (t6 p xs h))))
      -- found.append((courtesy, enough))
      refine ⟨_, rfl, .inl ⟨rfl, _, SqL.of hl9⟩, _, rfl, _, rfl, by show 2 ≤ sizeLine; decide, fun r hrr => ?_⟩
      have sr : Same H9 (upd H9 r (.tup [.int cc, optV ee])) := same_upd hrr
      have hl10 := sr _ _ hl9
      refine ⟨l, _, _, rfl, rfl, hl10, by rw [List.length_map]; exact small1000 (by omega), ?_⟩
      refine ⟨ps ++ [r], t ++ [(cc, ee)], _, _, _, rfl, evo_kept (e41.trans (Same.evo sr)) hl, ?_, by rw [List.length_append, List.length_append, hpt]; rfl, fun j g p h1 h2 => ?_, by rw [List.length_append, ht]; rfl, fun g hgm => ?_⟩
      · rw [upd_same, List.map_append]
        rfl
      · have lt : ∀ p' : Addr, (upd H9 r (.tup [.int cc, optV ee])) p' = some (.tup [.int g.1, optV g.2]) → (upd (upd H9 r (.tup [.int cc, optV ee])) l (.lst (ps.map V.ref ++ [.ref r]))) p' = some (.tup [.int g.1, optV g.2]) := fun p' h => by
          rw [upd_ne (ne_of h hl10 (by intro z; cases z))]
          exact h
        refine lt p ?_
        by_cases hj : j < t.length
        · rw [List.getElem?_append_left hj] at h1
          rw [List.getElem?_append_left (by omega)] at h2
          exact sr _ _ (t9 _ _ (hg j g p h1 h2))
        · have ej : j = t.length := by
            have := (List.getElem?_eq_some_iff.mp h1).1
            rw [List.length_append, List.length_singleton] at this
            omega
          rw [List.getElem?_append_right (by omega), ej, Nat.sub_self] at h1
          rw [List.getElem?_append_right (by omega), ej, hpt, Nat.sub_self] at h2
          cases h1
          cases h2
          exact upd_same
      · rcases List.mem_append.mp hgm with h | h
        · exact lim g h
        · have : g = (cc, ee) := by simpa using h
          rw [this]
          exact ⟨cy.1, cy.2, ey⟩
    · rintro σ H3 ⟨ps, t, v5, v6, v7, rfl, e3, hl3, hpt, hg, ht, lim⟩
      refine ⟨_, rfl, l, _, rfl, .inl ⟨SqL.of hl3, fun r hrr => ?_⟩⟩
      have sr : Same H3 (upd H3 r (.tup (ps.map V.ref))) := same_upd hrr
      exact q r t _ (e3.trans (Same.evo sr)) (.mk (ps := ps) (SqT.of upd_same) hpt fun i g p h1 h2 => SqT.of (sr _ _ (hg i g p h1 h2))) (by omega) (by omega) lim
end
end Lp
namespace Lp
open PySem PySem.Spec PyProof.Rows L2
/-- what is told of the pieces: ps holds (seat, visit) of each, in order -/
def Takings (K : PySem.W.Frag) (H : Hp) (t : List Guest) (f : Nat) (d : Int) (k : Nat) (ps : List Addr) : Prop :=
  (ps.length : Int) = d - (St8 t f d k).left ∧ ∀ (j : Nat) (p : Addr), ps[j]? = some p → ∃ n, n < k ∧ H p = some (.tup [.int (((f + n) % t.length : Nat) : Int), .int ((n + 1 : Nat) : Int)]) ∧ d - (St8 t f d n).left = j ∧ d - (St8 t f d (n + 1)).left = j + 1
section
variable {P : Program} {w : World} {K : PySem.W.Frag} {mg : Str → Option Value} {base : Heap}
def spLawRest (K : PySem.W.Frag) : Sp := fun vs H Q _ => ∃ (a : Addr) (t : List Guest) (f : Nat) (d : Int), vs = [.ref a, .int d, .int (f : Int)] ∧ TableAt K H a t ∧ TabOk t ∧ f < t.length ∧ 0 ≤ d ∧ d ≤ 1000000 ∧
  ∀ (q lh lt : Addr) (ps : List Addr) (k : Nat) (H' : Hp), Same H H' → H lh = none → H lt = none → H' q = some (.tup [.ref lh, .int (Fin t f d).left, .ref lt]) → H' lh = some (.lst ((finL t f d).map V.int)) → H' lt = some (.lst (ps.map V.ref)) → Takings K H' t f d k ps → St8 t f d k = Fin t f d → Q (.ref q) H'
/-- none of the last visits took a piece -/
def Idle (t : List Guest) (f : Nat) (d : Int) (k m : Nat) : Prop := m ≤ k ∧ ∀ j, j < m → ¬ D.wants (D.gs t) (St8 t f d k) ((f + (k - 1 - j)) % t.length)
theorem idle_quiet {t : List Guest} {f : Nat} {d : Int} {k m : Nat} (ok : TabOk t) (h : Idle t f d k m) (hm : t.length ≤ m) : D.Quiet (D.gs t) t.length (St8 t f d k) := fun i hi => by
  obtain ⟨j, hj, e⟩ := D.met (f := f) (n := t.length) ok.1 (k - t.length) i hi
  have hk := h.1
  have := h.2 (t.length - 1 - j) (by omega)
  rw [show k - 1 - (t.length - 1 - j) = k - t.length + j by omega, e] at this
  exact this
def enoughB (o : Option Int) (x : Int) : Bool := match o with
  | none => true
  | some m => decide (x < m)
theorem enoughB_iff {o : Option Int} {x : Int} : enoughB o x = true ↔ ∀ m, o = some m → x < m := by
  cases o with
  | none => exact ⟨fun _ m e => (by cases e), fun _ => rfl⟩
  | some m => exact ⟨fun h m' e => (by cases e; exact of_decide_eq_true h), fun h => decide_eq_true (h m rfl)⟩
theorem or_enough {σ : L2.St} {H : Hp} {o : Option Int} {p : Addr} {xs : List V} {z x : Int} (h9 : σ[9]? = some (some (optV o))) (h3 : σ[3]? = some (some (.ref p))) (h7 : σ[7]? = some (some (.int z))) (hs : SqL K H p xs) (hx : atI xs z = some (.int x)) {Q : Bool → Hp → Prop}
    (h : Q (enoughB o x) H) : tOr (tTest (tOp (fun x y H Q => y = .non ∧ Q (.bl (decide (x = .non))) H) (tVar 9) (tC .non))) (tTest (tOp (rI0 fun i j => .bl (decide (i < j))) (tOp (rIxL K) (tVar 3) (tVar 7)) (tVar 9))) σ H Q := by
  refine ⟨_, h9, rfl, _, rfl, ?_⟩
  cases o with
  | none => exact iteT h
  | some m => exact iteF ⟨_, h3, _, h7, p, _, _, _, rfl, rfl, hs, hx, _, h9, _, _, rfl, rfl, _, rfl, h⟩
theorem sc_law_rest : FnScope ["table", "dish", "begin", "had", "takings", "visits", "idle", "seat", "courtesy", "enough"] ["table", "dish", "begin"] (defScope s_law_rest) := ⟨rfl, rfl, rfl, by decide +kernel, rfl, by decide +kernel, by decide +kernel⟩
theorem ok_lrest {f : Addr} {fd : FuncData} (F : L2.Fun K "_law_rest" "_law_rest" s_law_rest f fd) (B : Bls mg) : FnOk P w K mg base L2.CX0 1 f fd ["table", "dish", "begin"] (spLawRest K) := by
  refine F.ok sc_law_rest (fun vs H Q E h => ?_) (fun cdv A outer s H vs Q E hr h => ?_)
  · obtain ⟨a, t, f, d, rfl, _⟩ := h
    rfl
  · obtain ⟨a, t, fs, d, rfl, tb, ok, hf, hd, hd1, kq⟩ := h
    have hn : 0 < t.length := ok.1
    obtain ⟨xs, hx, hl, hg⟩ := tb.open
    have l8 : xs.length ≤ 8 := by rw [hl]; exact ok.2.1
    refine ⟨_, (pss_cons (ps_asg (pe_tup (pa_cons (pe_op op_rep (pe_lst (pa_cons pe_int pa_nil)) (pe_len B (pv 0))) (pa_cons (pe_lst pa_nil) (pa_cons pe_int (pa_cons pe_int pa_nil))))) (pg_tup (by rfl) (pgs_cons (pg_name (i := 3) sc_law_rest.nd rfl (Or.inl rfl)) (pgs_cons (pg_name (i := 4) sc_law_rest.nd rfl (Or.inl rfl)) (pgs_cons (pg_name (i := 5) sc_law_rest.nd rfl (Or.inl rfl)) (pgs_cons (pg_name (i := 6) sc_law_rest.nd rfl (Or.inl rfl)) pgs_nil))))))
      (pss_cons (ps_while PassesOwn.never (pt_cmpR op_lt (pv 6) (pe_len B (pv 0)) (nomark _))
      (pss_cons (ps_set (i := 7) sc_law_rest.nd rfl (Or.inl rfl) (pe_op op_mod (pe_op op_add (pv 2) (pv 5)) (pe_len B (pv 0))))
      (pss_cons (ps_asg (pe_ix ix_tup (pv 0) (pv 7) (fun _ _ => rfl)) (pg_tup (by rfl) (pgs_cons (pg_name (i := 8) sc_law_rest.nd rfl (Or.inl rfl)) (pgs_cons (pg_name (i := 9) sc_law_rest.nd rfl (Or.inl rfl)) pgs_nil))))
      (pss_cons (ps_par (i := 5) (j := 6) (by rfl) sc_law_rest.nd rfl rfl (by decide) rfl rfl (pa_cons (pe_op op_add (pv 5) pe_int) (pa_cons (pe_op op_add (pv 6) pe_int) pa_nil)) (by rfl))
      (pss_one (ps_if (PW.pt (pw_and (pt_cmpR op_gt (pv 1) (pv 8) (nomark _)) (pw_and1 (PW.pt (pw_or (pt_cmpR op_isN (pv 9) pe_non (nomark _)) (pw_or1 (pt_cmpR op_lt (pe_ix ix_list (pv 3) (pv 7) (fun _ _ => rfl)) (pv 9) (nomark _))))))))
      (pss_cons (ps_asg (pe_tup (pa_cons (pe_op op_add (pe_ix ix_list (pv 3) (pv 7) (fun _ _ => rfl)) pe_int) (pa_cons (pe_op op_sub (pv 1) pe_int) (pa_cons pe_int pa_nil)))) (pg_tup (by rfl) (pgs_cons (pg_sub (pv 3) (pv 7) set_list) (pgs_cons (pg_name (i := 1) sc_law_rest.nd rfl (Or.inl rfl)) (pgs_cons (pg_name (i := 6) sc_law_rest.nd rfl (Or.inl rfl)) pgs_nil)))))
      (pss_one (ps_expr (pe_bm PySem.F.plainAttrs_list PySem.F.slot_list_append PySem.F.type_list_append mt_append (pv 4) (pa_cons (pe_tup (pa_cons (pv 7) (pa_cons (pv 5) pa_nil))) pa_nil)))))
      pss_nil))))))
      (pss_one (ps_ret (pe_tup (pa_cons (pv 3) (pa_cons (pv 1) (pa_cons (pv 4) pa_nil)))))))), ?_⟩
    -- had, takings, visits, idle
    refine ⟨by show 1 ≤ sizeLine; decide, fun z hz => ?_⟩
    refine ⟨_, rfl, a, xs, rfl, .inr (Same.sqt (same_upd hz) hx), z, _, _, rfl, rfl, upd_same, by omega, by omega, ?_, fun lh hlh => ?_⟩
    · show 1 * ((xs.length : Nat) : Int).toNat ≤ sizeLine
      exact Nat.le_of_lt (small1000 (by omega))
    refine ⟨Nat.zero_le _, fun lt hlt => ?_⟩
    refine ⟨by show 4 ≤ sizeLine; decide, fun q0 hq0 => ⟨q0, _, rfl, SqT.of upd_same, rfl, _, _, rfl, _, _, rfl, _, _, rfl, _, _, rfl, rfl, ?_⟩⟩
    have s1 : Same H (upd H z (.lst [.int 0])) := same_upd hz
    have nh : H lh = none := s1.free hlh
    have s2 := s1.trans (same_upd (o := .lst (List.replicate ((xs.length : Nat) : Int).toNat [V.int 0]).flatten) hlh)
    have nt : H lt = none := s2.free hlt
    have s3 := s2.trans (same_upd (o := .lst []) hlt)
    have s4 := s3.trans (same_upd (o := .tup [.ref lh, .ref lt, .int 0, .int 0]) hq0)
    have nht : lh ≠ lt := fun e => by rw [e, upd_same] at hlt; cases hlt
    -- the loop
    have look : ∀ H', Same H H' → SqT K H' a xs := fun H' s' => Same.sqt s' hx
    refine ⟨fun m σ H' => ∃ (k idle : Nat) (ps : List Addr) (v7 v8 v9 : Option V), σ = [some (.ref a), some (.int (St8 t fs d k).left), some (.int (fs : Int)), some (.ref lh), some (.ref lt), some (.int (k : Int)), some (.int (idle : Int)), v7, v8, v9] ∧
      Same H H' ∧ H' lh = some (.lst ((D.hadL t.length (St8 t fs d k).had).map V.int)) ∧ H' lt = some (.lst (ps.map V.ref)) ∧ Takings K H' t fs d k ps ∧ Idle t fs d k idle ∧ idle ≤ t.length ∧ m = (St8 t fs d k).left.toNat * (t.length + 1) + (t.length - idle),
      ⟨_, 0, 0, [], none, none, none, rfl, s4, ?_, ?_, ⟨?_, fun j p h => by cases h⟩, ⟨Nat.le_refl _, fun j h => absurd h (Nat.not_lt_zero _)⟩, Nat.zero_le _, rfl⟩, ?_⟩
    · rw [upd_ne (ne_of_none (by rw [upd_ne nht, upd_same]) hq0), upd_ne nht, upd_same, Int.toNat_natCast, hl, rep_flat]
      show _ = some (HO.lst ((D.hadL t.length fun _ => 0).map V.int))
      rw [D.hadL_zero, List.map_replicate]
    · rw [upd_ne (ne_of_none upd_same hq0), upd_same]
      rfl
    · show (0 : Int) = d - d
      omega
    rintro m σ H1 ⟨k, idle, ps, v7, v8, v9, rfl, sm, hh, ht, tk, id, idn, rfl⟩
    refine ⟨_, rfl, _, rfl, a, xs, rfl, .inr (look _ sm), _, _, rfl, rfl, _, rfl, ?_⟩
    refine ite2 (fun c0 => ?_) (fun c0 => ?_)
    rotate_left
    · have q0 := idle_quiet ok id (by
        have : ¬ ((idle : Int) < (xs.length : Int)) := fun z => c0 (decide_eq_true z)
        omega)
      have e := fin_at ok hd q0
      refine ⟨_, rfl, _, rfl, _, rfl, by show 3 ≤ sizeLine; decide, fun q hq => ?_⟩
      have sq : Same H1 (upd H1 q (.tup [.ref lh, .int (St8 t fs d k).left, .ref lt])) := same_upd hq
      refine kq q lh lt ps k _ (sm.trans sq) nh nt ?_ ?_ (sq _ _ ht) ⟨tk.1, fun j p hp => ?_⟩ e
      · rw [upd_same, e]
      · have hh' := hh
        rw [e] at hh'
        exact sq _ _ hh'
      · obtain ⟨n, h1, h2, h3⟩ := tk.2 j p hp
        exact ⟨n, h1, sq _ _ h2, h3⟩
    have idl : idle < t.length := by
      have := of_decide_eq_true c0
      omega
    refine ⟨fun σ' H' => ∃ m', m' < (St8 t fs d k).left.toNat * (t.length + 1) + (t.length - idle) ∧ ∃ (k idle : Nat) (ps : List Addr) (v7 v8 v9 : Option V), σ' = [some (.ref a), some (.int (St8 t fs d k).left), some (.int (fs : Int)), some (.ref lh), some (.ref lt), some (.int (k : Int)), some (.int (idle : Int)), v7, v8, v9] ∧
      Same H H' ∧ H' lh = some (.lst ((D.hadL t.length (St8 t fs d k).had).map V.int)) ∧ H' lt = some (.lst (ps.map V.ref)) ∧ Takings K H' t fs d k ps ∧ Idle t fs d k idle ∧ idle ≤ t.length ∧ m' = (St8 t fs d k).left.toNat * (t.length + 1) + (t.length - idle), fun _ _ h => h, ?_⟩
    -- seat
    refine ⟨_, rfl, _, rfl, _, _, rfl, rfl, _, rfl, a, xs, rfl, .inr (look _ sm), _, _, rfl, rfl, by omega, ?_⟩
    have hi : (fs + k) % t.length < t.length := Nat.mod_lt _ hn
    have es : ((fs : Int) + (k : Int)) % (xs.length : Int) = (((fs + k) % t.length : Nat) : Int) := by
      rw [hl, Int.natCast_emod, Int.natCast_add]
    obtain ⟨p, e1, hp⟩ := hg _ _ (get_of hi)
    have hp1 := Same.sqt sm hp
    -- courtesy, enough
    refine ⟨_, rfl, _, rfl, a, xs, _, _, rfl, rfl, look _ sm, at_of es e1, p, _, rfl, hp1, rfl, _, _, rfl, _, _, rfl, rfl, ?_⟩
    -- visits, idle
    refine ⟨_, rfl, _, _, rfl, rfl, _, rfl, _, _, rfl, rfl, _, _, rfl, ?_⟩
    have stp : St8 t fs d (k + 1) = D.vis (D.gs t) (St8 t fs d k) ((fs + k) % t.length) := rfl
    -- nothing is taken
    have no : ¬ D.wants (D.gs t) (St8 t fs d k) ((fs + k) % t.length) → ∀ (v7 v8 v9 : Option V), ∃ m', m' < (St8 t fs d k).left.toNat * (t.length + 1) + (t.length - idle) ∧ ∃ (k' idle' : Nat) (ps : List Addr) (w7 w8 w9 : Option V), ([some (.ref a), some (.int (St8 t fs d k).left), some (.int (fs : Int)), some (.ref lh), some (.ref lt), some (.int ((k : Int) + 1)), some (.int ((idle : Int) + 1)), v7, v8, v9] : L2.St) = [some (.ref a), some (.int (St8 t fs d k').left), some (.int (fs : Int)), some (.ref lh), some (.ref lt), some (.int (k' : Int)), some (.int (idle' : Int)), w7, w8, w9] ∧
        Same H H1 ∧ H1 lh = some (.lst ((D.hadL t.length (St8 t fs d k').had).map V.int)) ∧ H1 lt = some (.lst (ps.map V.ref)) ∧ Takings K H1 t fs d k' ps ∧ Idle t fs d k' idle' ∧ idle' ≤ t.length ∧ m' = (St8 t fs d k').left.toNat * (t.length + 1) + (t.length - idle') := fun w v7 v8 v9 => by
      have e : St8 t fs d (k + 1) = St8 t fs d k := by rw [stp, D.vis_no w]
      refine ⟨_, ?_, k + 1, idle + 1, ps, v7, v8, v9, ?_, sm, ?_, ht, ⟨?_, fun j p hp => ?_⟩, ⟨by have := id.1; omega, fun j hj => ?_⟩, by omega, rfl⟩
      · rw [e]
        omega
      · rw [e]
        rfl
      · rw [e]
        exact hh
      · rw [e]
        exact tk.1
      · obtain ⟨n, h1, h2, h3⟩ := tk.2 j p hp
        exact ⟨n, by omega, h2, h3⟩
      · rw [e]
        by_cases j0 : j = 0
        · subst j0
          rw [show k + 1 - 1 - 0 = k by omega]
          exact w
        · have := id.2 (j - 1) (by omega)
          rw [show k - 1 - (j - 1) = k + 1 - 1 - j by have := id.1; omega] at this
          exact this
    -- a piece is taken
    refine ⟨_, rfl, _, rfl, _, _, rfl, rfl, _, rfl, ?_⟩
    refine ite2 (fun c1 => ?_) (fun c1 => ?_)
    rotate_left
    · exact iteF (no (fun w => c1 (decide_eq_true w.1)) _ _ _)
    have l1 := of_decide_eq_true c1
    refine or_enough (o := (D.gs t ((fs + k) % t.length)).2) rfl rfl rfl (SqL.of hh) (at_of es (map_at (D.hadL_get _ hi))) ?_
    refine ite2 (fun c2 => ?_) (fun c2 => no (fun w => c2 (enoughB_iff.mpr w.2)) _ _ _)
    have wt : D.wants (D.gs t) (St8 t fs d k) ((fs + k) % t.length) := ⟨l1, enoughB_iff.mp c2⟩
    refine ⟨_, rfl, _, rfl, lh, _, _, _, rfl, rfl, SqL.of hh, at_of es (map_at (D.hadL_get _ hi)), _, _, rfl, rfl, _, rfl, _, _, rfl, rfl, by show 3 ≤ sizeLine; decide, fun r hrr => ?_⟩
    have sr : Same H1 (upd H1 r (.tup [.int ((St8 t fs d k).had ((fs + k) % t.length) + 1), .int ((St8 t fs d k).left - 1), .int 0])) := same_upd hrr
    have ixn : ixN ((D.hadL t.length (St8 t fs d k).had).map V.int).length (((fs : Int) + (k : Int)) % (xs.length : Int)) = some ((fs + k) % t.length) := by
      rw [es]
      exact ixN_nat (by rw [List.length_map, D.hadL_len]; exact hi)
    refine ⟨r, _, rfl, SqT.of upd_same, rfl, _, _, rfl, _, rfl, _, rfl, lh, _, _, _, rfl, rfl, sr _ _ hh, ixn, _, _, rfl, _, _, rfl, rfl, ?_⟩
    -- takings.append((seat, visits))
    have nlt : lt ≠ lh := fun e => by
      rw [e, hh] at ht
      have z := HO.lst.inj (Option.some.inj ht)
      have hlen : (D.hadL t.length (St8 t fs d k).had).length = t.length := D.hadL_len _ _
      cases q : D.hadL t.length (St8 t fs d k).had with
      | nil => rw [q] at hlen; simp at hlen; omega
      | cons _ _ =>
        rw [q] at z
        cases ps with
        | nil => cases z
        | cons _ _ => cases z
    have ht2 : (upd (upd H1 r (.tup [.int ((St8 t fs d k).had ((fs + k) % t.length) + 1), .int ((St8 t fs d k).left - 1), .int 0])) lh (.lst (((D.hadL t.length (St8 t fs d k).had).map V.int).set ((fs + k) % t.length) (.int ((St8 t fs d k).had ((fs + k) % t.length) + 1))))) lt = some (.lst (ps.map V.ref)) := by
      rw [upd_ne nlt]
      exact sr _ _ ht
    refine ⟨_, rfl, .inl ⟨rfl, _, SqL.of ht2⟩, _, rfl, _, rfl, by show 2 ≤ sizeLine; decide, fun u hu => ?_⟩
    have su := same_upd (o := .tup [.int (((fs : Int) + (k : Int)) % (xs.length : Int)), .int ((k : Int) + 1)]) hu
    have cnt := tk.1
    have dl : d - (St8 t fs d k).left ≤ 1000000 := by
      have := D.left_nonneg (f := fs) (d := d) hn (fun i hi => guest_pos ok i hi) hd k
      have e : (St8 t fs d k).left = (D.run (D.gs t) t.length fs d k).left := rfl
      omega
    refine ⟨lt, _, _, rfl, rfl, su _ _ ht2, by rw [List.length_map, sizeLine_eq]; omega, ?_⟩
    have el : (St8 t fs d (k + 1)).left = (St8 t fs d k).left - 1 := by rw [stp, D.vis_yes wt]
    have cpos := guest_pos ok _ hi
    have nru : u ≠ lh := fun e => by rw [e, upd_same] at hu; cases hu
    have nul : u ≠ lt := fun e => by rw [e, ht2] at hu; cases hu
    refine ⟨_, ?_, k + 1, 0, ps ++ [u], some (.int (((fs : Int) + (k : Int)) % (xs.length : Int))), some (.int (D.gs t ((fs + k) % t.length)).1), some (optV (D.gs t ((fs + k) % t.length)).2), ?_, ?_, ?_, ?_, ⟨?_, fun j p' hp' => ?_⟩, ⟨Nat.zero_le _, fun j h => absurd h (Nat.not_lt_zero _)⟩, Nat.zero_le _, rfl⟩
    · rw [el]
      have e1 : ((St8 t fs d k).left - 1).toNat + 1 = (St8 t fs d k).left.toNat := by omega
      rw [← e1, Nat.succ_mul]
      omega
    · rw [el]
      rfl
    · exact upd_kept (Same.trans (upd_kept (sm.trans sr) nh) su) nt
    · rw [upd_ne (Ne.symm nlt), su _ _ upd_same, map_set, D.hadL_bump _ hi, stp, D.vis_yes wt]
    · rw [upd_same, List.map_append]
      rfl
    · rw [el, List.length_append, List.length_singleton]
      omega
    · have keep : ∀ (q : Addr) (ys : List V), H1 q = some (.tup ys) → (upd (upd (upd (upd H1 r (.tup [.int ((St8 t fs d k).had ((fs + k) % t.length) + 1), .int ((St8 t fs d k).left - 1), .int 0])) lh (.lst (((D.hadL t.length (St8 t fs d k).had).map V.int).set ((fs + k) % t.length) (.int ((St8 t fs d k).had ((fs + k) % t.length) + 1))))) u (.tup [.int (((fs : Int) + (k : Int)) % (xs.length : Int)), .int ((k : Int) + 1)])) lt (.lst (ps.map V.ref ++ [.ref u]))) q = some (.tup ys) := fun q ys hq => by
        rw [upd_ne (ne_of hq ht (by intro z; cases z))]
        refine su _ _ ?_
        rw [upd_ne (ne_of hq hh (by intro z; cases z))]
        exact sr _ _ hq
      by_cases hj : j < ps.length
      · rw [List.getElem?_append_left hj] at hp'
        obtain ⟨n, h1, h2, h3⟩ := tk.2 j p' hp'
        exact ⟨n, by omega, keep _ _ h2, h3⟩
      · have ej : j = ps.length := by
          have := (List.getElem?_eq_some_iff.mp hp').1
          rw [List.length_append, List.length_singleton] at this
          omega
        rw [List.getElem?_append_right (by omega), ej, Nat.sub_self] at hp'
        cases hp'
        refine ⟨k, Nat.lt_succ_self k, ?_, by omega, by omega⟩
        rw [upd_ne nul, upd_same]
        show some (HO.tup [V.int (((fs : Int) + (k : Int)) % (xs.length : Int)), V.int ((k : Int) + 1)]) = _
        rw [es]
        rfl
end
end Lp
namespace Lp
open PySem PySem.Spec PyProof.Rows L2
def spLaw (K : PySem.W.Frag) : Sp := fun vs H Q _ => ∃ (a : Addr) (ns : List Int), vs = [.ref a] ∧ SqL K H a (ns.map V.int) ∧ ns.length ≤ 63 ∧ ∀ H', Q (.bl true) H'
/-- a constant as the last argument -/
theorem arg1 {σ : L2.St} {H : Hp} {v : V} {k : List V → Hp → Prop} (h : k [v] H) : tCons (tC v) tNil σ H k := h
theorem for_range0 {n : Nat} {g : TG} {tb : TS} {D : Ends} {σ : L2.St} {H : Hp} (Pv : Nat → L2.St → Hp → Prop) (h0 : Pv 0 σ H)
    (hs : ∀ i σ H, i < n → Pv i σ H → g (.int (i : Int)) σ H fun σ2 H2 => tb { D with nx := Pv (i + 1), ct := Pv (i + 1), bk := D.nx } σ2 H2) (hd : ∀ σ H, Pv n σ H → D.nx σ H) :
    ∃ W : Nat → Nat → L2.St → Hp → Prop, (∃ m, W 0 m σ H) ∧ ∀ i m σ H, W i m σ H →
      ((Itr 0 n).stop i H ∧ D.nx σ H) ∨ ((Itr 0 n).go i H ∧ ∃ N : L2.St → Hp → Prop, (∀ σ' H', N σ' H' → ∃ m', m' < m ∧ W (i + 1) m' σ' H') ∧ ∀ x H', (Itr 0 n).yld i H x H' → g x σ H' fun σ2 H2 => tb { D with nx := N, ct := N, bk := D.nx } σ2 H2) :=
  for_range (lo := 0) Pv h0 (fun i σ H hi p => by rw [Int.zero_add]; exact hs i σ H hi p) hd
theorem finL_len (t : List Guest) (f : Nat) (d : Int) : (finL t f d).length = t.length := D.hadL_len _ _
theorem finL_get {t : List Guest} {f : Nat} {d : Int} {i : Nat} (hi : i < t.length) : (finL t f d)[i]? = some ((Fin t f d).had i) := D.hadL_get _ hi
theorem gs_at {t : List Guest} {i : Nat} {g : Guest} (h : t[i]? = some g) : D.gs t i = g := by
  show t.getD i (0, none) = g
  rw [List.getD_eq_getElem?_getD, h]
  rfl
theorem fin_sum {t : List Guest} (ok : TabOk t) (f : Nat) (d : Int) : (finL t f d).sum + (Fin t f d).left = d := by
  have := D.run_sum (g := D.gs t) (f := f) (d := d) ok.1 (D.enoughVisits t.length d)
  have e : (finL t f d).sum = D.total t.length (Fin t f d).had := D.total_hadL _ _
  rw [e]
  exact this
theorem fin_le {t : List Guest} (ok : TabOk t) (f : Nat) {d : Int} (hd : 0 ≤ d) : 0 ≤ (Fin t f d).left ∧ (Fin t f d).left ≤ d :=
  ⟨D.left_nonneg ok.1 (fun i hi => guest_pos ok i hi) hd _, D.left_le _⟩
theorem nx_mk {nx ct bk : L2.St → Hp → Prop} {rt : VK} {σ : L2.St} {H : Hp} (h : nx σ H) : Ends.nx { nx := nx, ct := ct, bk := bk, rt := rt } σ H := h
theorem c_mk {v : V} {σ : L2.St} {H : Hp} {Q : VK} (h : Q v H) : tC v σ H Q := h
theorem no_ne {x : V} {Q : Bool → Hp → Prop} {H : Hp} (h : Q false H) : Q (!decide (x = x)) H := by
  rw [decide_eq_true rfl]
  exact h
theorem next_mk {nx ct bk : L2.St → Hp → Prop} {rt : VK} {σ : L2.St} {H : Hp} (h : nx σ H) : tNext { nx := nx, ct := ct, bk := bk, rt := rt } σ H := h
/-- «if T: ..» where T is false, whatever stands behind it -/
theorem guardS {T : TT} {A B C : TS} {D : Ends} {σ : L2.St} {H : Hp} (hx : ∀ Q' : Bool → Hp → Prop, (∀ H', Same H H' → Q' false H') → T σ H Q') (hq : ∀ H', Same H H' → B { D with nx := C D } σ H') : tSeq (tIfS T A B) C D σ H :=
  hx _ fun H' s => iteF (hq H' s)
theorem guardE {T : TT} {A B : TS} {D : Ends} {σ : L2.St} {H : Hp} (hx : ∀ Q' : Bool → Hp → Prop, (∀ H', Same H H' → Q' false H') → T σ H Q') (hq : ∀ H', Same H H' → B D σ H') : tIfS T A B D σ H :=
  hx _ fun H' s => iteF (hq H' s)
section
variable {K : PySem.W.Frag} {H : Hp}
theorem ne_same {a b : Addr} {ns : List Int} {Q : VK} (h1 : SqL K H a (ns.map V.int)) (h2 : SqL K H b (ns.map V.int)) (q : Q (.bl false) H) : rNeD K (.ref a) (.ref b) H Q :=
  ne_ints h1 h2 (by rw [decide_eq_true rfl]; exact q)
theorem eq_same {a b : Addr} {ns : List Int} {Q : VK} (h1 : SqL K H a (ns.map V.int)) (h2 : SqL K H b (ns.map V.int)) (q : Q (.bl true) H) : rEqD K (.ref a) (.ref b) H Q :=
  eq_ints h1 h2 (by rw [decide_eq_true rfl]; exact q)
/-- a list of ints is a list -/
theorem isi_ints {a : Addr} {ns : List Int} {Q : VK} (h : SqL K H a (ns.map V.int)) (q : Q (.bl true) H) : rIsi K [.ref a, .ty "list"] H Q :=
  ⟨_, _, _, _, _, rfl, .ty _, tyx (dp_ints h), kit_l _ _, q⟩
/-- x != x -/
theorem if_ne {x : V} {A B : Prop} (h : B) : if (!decide (x = x)) = true then A else B := by
  rw [decide_eq_true rfl]
  exact iteF h
end
end Lp
namespace Lp
open PySem PySem.Spec PyProof.Rows L2
section
variable {P : Program} {w : World} {K : PySem.W.Frag} {mg : Str → Option Value} {base : Heap}
def spNeedShares (K : PySem.W.Frag) : Sp := fun vs H Q _ => ∃ (a w : Addr) (xs : List V) (ns : List Int), vs = [.ref a, .ref w] ∧ SqT K H a xs ∧ SqL K H w (ns.map V.int) ∧ ns.length = xs.length ∧ xs.length ≤ 8 ∧ (∀ m ∈ ns, 0 ≤ m ∧ m ≤ 1000000000000000000) ∧ ∀ H', Same H H' → Q .non H'
theorem sc_need_shares : FnScope ["table", "thing", "one"] ["table", "thing"] (defScope s_need_shares) := ⟨rfl, rfl, rfl, by decide +kernel, rfl, by decide +kernel, by decide +kernel⟩
theorem ok_need_shares {f : Addr} {fd : FuncData} (F : L2.Fun K "need_shares" "need_shares" s_need_shares f fd) (B : Bls mg) (G : Greatest mg) (c_is_within : Cal P w K mg base 1 "is_within" (spWithin K)) : FnOk P w K mg base L2.CX0 2 f fd ["table", "thing"] (spNeedShares K) := by
  refine F.ok sc_need_shares (fun vs H Q E h => ?_) (fun cdv A outer s H vs Q E hr h => ?_)
  · obtain ⟨_, _, _, _, rfl, _⟩ := h
    rfl
  · obtain ⟨a, w, xs, ns, rfl, ha, hw, hl, n8, bd, k⟩ := h
    obtain ⟨gv, h_GREATEST, r_GREATEST⟩ := G
    refine ⟨_, (pss_cons (ps_if (PW.pt (pw_or (pt_not (pt_val (pe_isi B (pv 1) (pe_tList B)))) (pw_or1 (pt_cmpR op_ne (pe_len B (pv 1)) (pe_len B (pv 0)) (nomark _)))))
      (pss_one ps_never)
      pss_nil)
      (pss_one (ps_if (pt_not (pt_val (pe_callB (cr_all rfl) (by rfl) B.all (by decide +kernel) (pa_cons (pe_lc (own := [("one", 2)]) (g := gName 2)  (tt := tYes) (by rfl) sc_need_shares.nd (pi_list (pv 1)) (blkOk_by (own := [("one", 2)]) (N := ["table", "thing", "one"]) (sc := defScope s_need_shares) (by decide +kernel)) (fun _ _ _ _ _ => by exact (pg_name (i := 2) sc_need_shares.nd rfl (Or.inl rfl))) (fun _ _ _ _ _ => by exact pts_nil) (fun _ _ _ _ _ => by exact (pe_g c_is_within hr (pa_cons (pv 2) (pa_cons pe_int (pa_cons (pe_glob (by rfl) h_GREATEST r_GREATEST) pa_nil)))))) pa_nil))))
      (pss_one ps_never)
      pss_nil))), ?_⟩
    refine guardS (fun Q' k' => ?_) (fun H1 s1 => ?_)
    · refine ⟨_, rfl, arg1 (isi_ints hw ⟨_, rfl, iteF ?_⟩)⟩
      refine ⟨_, rfl, w, _, rfl, .inl hw, _, rfl, a, xs, rfl, .inr ha, rfl, _, rfl, ?_⟩
      rw [List.length_map, hl]
      exact no_ne (k' _ (Same.refl _))
    have hw1 : SqL K H1 w (ns.map V.int) := by
      rcases hw with (h | ⟨o, h⟩) | h
      · exact .inl (.inl (s1 _ _ h))
      · exact .inl (.inr ⟨o, s1 _ _ h⟩)
      · exact .inr h
    refine next_mk (guardE (fun Q' k' => ?_) (fun H2 s2 => ?_))
    · refine ⟨_, rfl, w, rfl, ⟨_, hw1⟩, fun Dl hD => ?_⟩
      refine lc_list (K := K) (a := w) (xs := ns.map V.int) (fun i H' => Same H1 H' ∧ H' Dl = some (.lst ((List.replicate i true).map V.bl))) ⟨same_upd hD, upd_same⟩ (fun i H' _ h => (Same.evn h.1).sql hw1) ?_ ?_
      · rintro i x H' hi ⟨sm, hq⟩
        obtain ⟨m, hm, rfl⟩ := ints_get hi
        have il := (List.getElem?_eq_some_iff.mp hm).1
        have b := bd m (List.mem_of_getElem? hm)
        refine ⟨rfl, ?_⟩
        refine ⟨_, rfl, _, _, _, _, rfl, .int m, ?_⟩
        refine ⟨_, hq, by rw [List.length_map, List.length_replicate]; exact small1000 (by omega), upd_kept sm hD, ?_⟩
        rw [upd_same, List.replicate_succ', List.map_append]
        show some (HO.lst (_ ++ [V.bl (decide (0 ≤ m) && decide (m ≤ 1000000000000000000))])) = _
        rw [decide_eq_true b.1, decide_eq_true b.2]
        rfl
      rintro H3 ⟨s3, hq3⟩
      refine ⟨Dl, List.replicate _ true, rfl, SqL.of hq3, ?_⟩
      rw [show (List.replicate (ns.map V.int).length true).all id = true from List.all_eq_true.mpr fun x hx => by rw [List.eq_of_mem_replicate hx]; rfl]
      exact ⟨_, rfl, k' _ s3⟩
    exact k _ (Same.trans s1 s2)
end
end Lp
namespace D
theorem had_left_le {g : Gs} {n f : Nat} {d : Int} (k i : Nat) : (run g n f d k).had i + (run g n f d k).left ≤ d := by
  induction k with
  | zero => show (0 : Int) + d ≤ d; omega
  | succ k ih =>
    rw [run_succ]
    unfold vis bump
    split
    · simp only
      split <;> omega
    · exact ih
end D
namespace Lp
open PySem PySem.Spec PyProof.Rows L2
theorem fin_had_le {t : List Guest} (ok : TabOk t) (f : Nat) {d : Int} (hd : 0 ≤ d) (i : Nat) : 0 ≤ (Fin t f d).had i ∧ (Fin t f d).had i ≤ d := by
  have h1 := D.had_nonneg (g := D.gs t) (n := t.length) (f := f) (d := d) (D.enoughVisits t.length d) i
  have h2 := D.had_left_le (g := D.gs t) (n := t.length) (f := f) (d := d) (D.enoughVisits t.length d) i
  have h3 := (fin_le ok f hd).1
  have h4 : (Fin t f d).left = (D.run (D.gs t) t.length f d (D.enoughVisits t.length d)).left := rfl
  exact ⟨h1, by show (D.run (D.gs t) t.length f d (D.enoughVisits t.length d)).had i ≤ d; omega⟩
theorem had_at {t : List Guest} {f : Nat} {d : Int} {ns : List Int} (e : finL t f d = ns) {i : Nat} {m : Int} (h : ns[i]? = some m) : i < t.length ∧ (Fin t f d).had i = m := by
  have il : i < t.length := by
    have := (List.getElem?_eq_some_iff.mp h).1
    rw [← e, finL_len] at this
    exact this
  rw [← e, finL_get il] at h
  exact ⟨il, Option.some.inj h⟩
end Lp
namespace Lp
open PySem PySem.Spec PyProof.Rows L2
theorem cut_take (xs : List V) (p : Nat) : cutV xs none (some (p : Int)) = xs.take p := by
  unfold cutV
  rw [HT.sIx_none, HT.sIx_nat, Nat.sub_zero, List.drop_zero, ← List.take_take, List.take_length]
theorem cut_drop (xs : List V) (p : Nat) : cutV xs (some (p : Int)) none = xs.drop p := by
  unfold cutV
  rw [HT.sIx_none, HT.sIx_nat]
  by_cases h : p ≤ xs.length
  · rw [Nat.min_eq_left h, List.take_of_length_le (by rw [List.length_drop]; exact Nat.le_refl _)]
  · rw [Nat.min_eq_right (by omega), Nat.sub_self, List.take_zero, List.drop_eq_nil_of_le (by omega)]
theorem nil_mk {σ : L2.St} {H : Hp} {k : List V → Hp → Prop} (h : k [] H) : tNil σ H k := h
theorem np_mk {σ : L2.St} {H : Hp} {k : Option Int → Hp → Prop} (h : k none H) : tNoPart σ H k := h
section
variable {P : Program} {w : World} {K : PySem.W.Frag} {mg : Str → Option Value} {base : Heap} {H : Hp} {Q : VK}
/-- t + u of any tuples -/
theorem cat_any {a b : Addr} {xs ys : List V} (h1 : SqT K H a xs) (h2 : SqT K H b ys) (hl : xs.length + ys.length ≤ 1000) (q : ∀ (r : Addr) (H' : Hp), Same H H' → SqT K H' r (xs ++ ys) → Q (.ref r) H') : rCatA K (.ref a) (.ref b) H Q :=
  ⟨a, b, xs, ys, rfl, rfl, h1, h2, Nat.le_of_lt (small1000 hl), fun e => q b H (Same.refl _) (by rw [e]; exact h2), fun _ e => q a H (Same.refl _) (by rw [e, List.append_nil]; exact h1),
    fun _ _ p hp => q p _ (same_upd hp) (SqT.of upd_same)⟩
theorem cat_list {a b : Addr} {xs ys : List V} (h1 : H a = some (.lst xs)) (h2 : H b = some (.lst ys)) (hl : xs.length + ys.length ≤ 1000) (q : ∀ (r : Addr) (H' : Hp), Same H H' → H' r = some (.lst (xs ++ ys)) → Q (.ref r) H') : rCat (.ref a) (.ref b) H Q :=
  ⟨a, b, xs, ys, rfl, rfl, h1, h2, Nat.le_of_lt (small1000 hl), fun p hp => q p _ (same_upd hp) upd_same⟩
theorem rep_list {a : Addr} {x : V} {n : Int} (h1 : H a = some (.lst [x])) (h0 : 0 ≤ n) (hn : n ≤ 1000) (q : ∀ (r : Addr) (H' : Hp), Same H H' → H' r = some (.lst (List.replicate n.toNat x)) → Q (.ref r) H') : rRep (.ref a) (.int n) H Q :=
  ⟨a, n, _, rfl, rfl, h1, by omega, by omega, by
    show 1 * n.toNat ≤ sizeLine
    exact Nat.le_of_lt (small1000 (by omega)), fun p hp => q p _ (same_upd hp) (by rw [upd_same, rep_flat])⟩
theorem cut_list {a : Addr} {xs : List V} {lo hi : Option Int} (h : SqL K H a xs) (q : ∀ (r : Addr) (H' : Hp), Same H H' → H' r = some (.lst (cutV xs lo hi)) → Q (.ref r) H') : rSlL K (.ref a) lo hi H Q :=
  ⟨a, xs, rfl, h, fun p hp => q p _ (same_upd hp) upd_same⟩
theorem sorted_any {a : Addr} {ns : List Int} (h : SqL K H a (ns.map V.int)) (hl : ns.length < 64) (q : ∀ (ns' : List Int) (r : Addr) (H' : Hp), ns'.Perm ns → ns'.Pairwise (· ≤ ·) → Same H H' → H' r = some (.lst (ns'.map V.int)) → Q (.ref r) H') : rSorted K [.ref a] H Q :=
  ⟨a, ns, rfl, h, hl, fun ns' p h1 h2 hp => q ns' p _ h1 h2 (same_upd hp) upd_same⟩
/-- the tuples of the guests, at any addresses -/
theorem TableAt.ofRefs {a : Addr} {xs : List V} {t : List Guest} (h : SqT K H a xs) (hl : xs.length = t.length) (hg : ∀ (i : Nat) (g : Guest), t[i]? = some g → ∃ p : Addr, xs[i]? = some (.ref p) ∧ SqT K H p [.int g.1, optV g.2]) : TableAt K H a t := by
  have key : ∀ (xs : List V) (t : List Guest), xs.length = t.length → (∀ (i : Nat) (g : Guest), t[i]? = some g → ∃ p : Addr, xs[i]? = some (.ref p) ∧ SqT K H p [.int g.1, optV g.2]) → ∃ ps : List Addr, xs = ps.map V.ref ∧ ps.length = t.length ∧ ∀ (i : Nat) (g : Guest) (p : Addr), t[i]? = some g → ps[i]? = some p → SqT K H p [.int g.1, optV g.2] := by
    intro xs
    induction xs with
    | nil =>
      intro t hl _
      exact ⟨[], rfl, hl, fun _ _ _ _ h => by cases h⟩
    | cons x xs ih =>
      intro t hl hg
      cases t with
      | nil => cases hl
      | cons g t =>
        obtain ⟨ps, e1, e2, e3⟩ := ih t (by simpa using hl) fun i g' h => hg (i + 1) g' h
        obtain ⟨p, e4, e5⟩ := hg 0 g rfl
        cases e4
        refine ⟨p :: ps, by rw [e1]; rfl, by simp [e2], fun i g' p' h1 h2 => ?_⟩
        cases i with
        | zero => cases h1; cases h2; exact e5
        | succ i => exact e3 i g' p' h1 h2
  obtain ⟨ps, rfl, e2, e3⟩ := key xs t hl hg
  exact .mk h e2 e3
end
end Lp
namespace D
section
variable {g g' : Gs} {n f : Nat} {d : Int}
theorem same_run2 (h : ∀ k, wants g (run g' n f d k) ((f + k) % n) ↔ wants g' (run g' n f d k) ((f + k) % n)) (k : Nat) : run g n f d k = run g' n f d k := by
  induction k with
  | zero => rfl
  | succ k ih =>
    rw [run_succ, run_succ, ih]
    by_cases w : wants g' (run g' n f d k) ((f + k) % n)
    · rw [vis_yes w, vis_yes ((h k).mpr w)]
    · rw [vis_no w, vis_no fun z => w ((h k).mp z)]
end
end D
namespace Lp
open PySem PySem.Spec PyProof.Rows L2
theorem gs_setP {t : List Guest} {p i : Nat} {g : Guest} (h : i ≠ p) : D.gs (t.set p g) i = D.gs t i := by
  show (t.set p g).getD i (0, none) = t.getD i (0, none)
  rw [List.getD_eq_getElem?_getD, List.getD_eq_getElem?_getD, List.getElem?_set_ne (Ne.symm h)]
end Lp
namespace D
section
variable {g g' : Gs} {n p : Nat} {s s' : S}
theorem moved_or (m : Moved g g' n p s s') : s.had = s'.had ∨ s.had p = s'.had p + 1 := by
  cases m with
  | same _ h => exact .inl h
  | off _ h _ _ => right; rw [h, bump_self]
  | gave i _ ip _ h _ _ _ _ =>
    right
    have e := congrFun h p
    rw [bump_ne _ (Ne.symm ip), bump_self] at e
    exact e
end
/-- a stretch of numbers by which something comes out, whatever it is measured by falls -/
theorem stretch {F : Int → List Int} {h : Int → Int} {s : List Int} {due G : Int} (mono : ∀ c c', 0 ≤ c → c ≤ c' → c' ≤ G → h c' ≤ h c ∧ (h c' = h c → F c' = F c)) (own : ∀ c, 0 ≤ c → c ≤ G → F c = s → h c = due)
    {r : Int} (r0 : 0 ≤ r) (rG : r ≤ G) (bad : ∀ m, 0 ≤ m → m < r → ¬ h m ≤ due) (hr : h r ≤ due) :
    (F r ≠ s → ∀ c, 0 ≤ c → c ≤ G → F c ≠ s) ∧ (F r = s → F G = s → ∀ c, 0 ≤ c → c ≤ G → (F c = s ↔ r ≤ c ∧ c ≤ G)) ∧
    (F r = s → F G ≠ s → ∀ q, r ≤ q → q ≤ G → (∀ m, r ≤ m → m < q → ¬ h m < due) → (∀ m, q ≤ m → m < G → h m < due) → r ≤ q - 1 ∧ q - 1 < G ∧ ∀ c, 0 ≤ c → c ≤ G → (F c = s ↔ r ≤ c ∧ c ≤ q - 1)) := by
  have ge : ∀ c, 0 ≤ c → c ≤ G → F c = s → r ≤ c := fun c c0 cG e => Int.not_lt.mp fun z => bad c c0 z (by rw [own c c0 cG e]; exact Int.le_refl _)
  refine ⟨fun ne c c0 cG e => ?_, fun e eG c c0 cG => ⟨fun ec => ⟨ge c c0 cG ec, cG⟩, fun ⟨h1, h2⟩ => ?_⟩, fun e nG q rq qG bad2 gd2 => ?_⟩
  · have rc := ge c c0 cG e
    obtain ⟨h1, h2⟩ := mono r c r0 rc cG
    have hc := own c c0 cG e
    exact ne ((h2 (by omega)).symm.trans e)
  · have hr' := own r r0 rG e
    have hG := own G (by omega) (Int.le_refl _) eG
    have m1 := mono r c r0 h1 cG
    have m2 := mono c G c0 cG (Int.le_refl _)
    exact (m1.2 (by omega)).trans e
  · have hr' := own r r0 rG e
    have mG := mono r G r0 rG (Int.le_refl _)
    have lt : h G < due := by
      rcases Int.lt_or_le (h G) due with z | z
      · exact z
      · exact absurd ((mG.2 (by omega)).trans e) nG
    have rq' : r ≤ q - 1 := by
      rcases Int.lt_or_le r q with z | z
      · omega
      · have er : r = q := by omega
        rcases Int.lt_or_le q G with y | y
        · have := gd2 q (Int.le_refl _) y
          rw [← er] at this
          omega
        · have : r = G := by omega
          rw [this] at hr'
          omega
    refine ⟨rq', by omega, fun c c0 cG => ⟨fun ec => ⟨ge c c0 cG ec, Int.not_lt.mp fun z => ?_⟩, fun ⟨h1, h2⟩ => ?_⟩⟩
    · have hc := own c c0 cG ec
      rcases Int.lt_or_le c G with y | y
      · have := gd2 c (by omega) y
        omega
      · have : c = G := by omega
        rw [this] at hc
        omega
    · have m1 := mono r c r0 h1 cG
      have := bad2 c h1 (by omega)
      exact (m1.2 (by omega)).trans e
end D
namespace Lp
open PySem PySem.Spec PyProof.Rows L2
theorem gs_set {t : List Guest} {p : Nat} (hp : p < t.length) (g : Guest) : D.gs (t.set p g) p = g := gs_at (by rw [List.getElem?_set_self hp])
theorem gs_others {t : List Guest} {p : Nat} (g g' : Guest) : D.Others (D.gs (t.set p g)) (D.gs (t.set p g')) p := fun i h => by rw [gs_setP h, gs_setP h]
/-- a courtesy one greater -/
theorem court_step {t : List Guest} (hn : 0 < t.length) {p : Nat} (hp : p < t.length) (f : Nat) (d c : Int) (e : Option Int) :
    (Fin (t.set p (c, e)) f d).had = (Fin (t.set p (c + 1, e)) f d).had ∨ (Fin (t.set p (c, e)) f d).had p = (Fin (t.set p (c + 1, e)) f d).had p + 1 := by
  obtain ⟨h1, h2⟩ := D.courtesy_moved (g := D.gs (t.set p (c, e))) (g' := D.gs (t.set p (c + 1, e))) (p := p) (gs_set hp _) (gs_set hp _)
  have m := D.fin_moved (n := t.length) (f := f) (d := d) hn (gs_others (t := t) (p := p) (c, e) (c + 1, e)) h1 h2
  have r := D.moved_or m
  have l1 : (t.set p (c, e)).length = t.length := List.length_set
  have l2 : (t.set p (c + 1, e)).length = t.length := List.length_set
  unfold Fin
  rw [l1, l2]
  exact r
theorem enough_step {t : List Guest} (hn : 0 < t.length) {p : Nat} (hp : p < t.length) (f : Nat) (d c m : Int) :
    (Fin (t.set p (c, some (m + 1))) f d).had = (Fin (t.set p (c, some m)) f d).had ∨ (Fin (t.set p (c, some (m + 1))) f d).had p = (Fin (t.set p (c, some m)) f d).had p + 1 := by
  obtain ⟨h1, h2⟩ := D.enough_moved (g := D.gs (t.set p (c, some (m + 1)))) (g' := D.gs (t.set p (c, some m))) (p := p) (gs_set hp _) (gs_set hp _)
  have k := D.fin_moved (n := t.length) (f := f) (d := d) hn (gs_others (t := t) (p := p) (c, some (m + 1)) (c, some m)) h1 h2
  have r := D.moved_or k
  have l1 : (t.set p (c, some (m + 1))).length = t.length := List.length_set
  have l2 : (t.set p (c, some m)).length = t.length := List.length_set
  unfold Fin
  rw [l1, l2]
  exact r
theorem finL_set {t : List Guest} {p : Nat} {g g' : Guest} {f : Nat} {d : Int} (h : (Fin (t.set p g) f d).had = (Fin (t.set p g') f d).had) : finL (t.set p g) f d = finL (t.set p g') f d := by
  unfold finL
  rw [h, List.length_set, List.length_set]
theorem court_mono {t : List Guest} (hn : 0 < t.length) {p : Nat} (hp : p < t.length) (f : Nat) (d : Int) (e : Option Int) {c c' : Int} (h : c ≤ c') :
    (Fin (t.set p (c', e)) f d).had p ≤ (Fin (t.set p (c, e)) f d).had p ∧ ((Fin (t.set p (c', e)) f d).had p = (Fin (t.set p (c, e)) f d).had p → finL (t.set p (c', e)) f d = finL (t.set p (c, e)) f d) := by
  obtain ⟨k, rfl⟩ : ∃ k : Nat, c' = c + k := ⟨(c' - c).toNat, by omega⟩
  clear h
  induction k with
  | zero => rw [Int.natCast_zero, Int.add_zero]; exact ⟨Int.le_refl _, fun _ => rfl⟩
  | succ k ih =>
    have st := court_step hn hp f d (c + k) e
    rw [show c + ((k + 1 : Nat) : Int) = c + k + 1 by omega]
    rcases st with z | z
    · have z' := congrFun z p
      have zl := finL_set z
      rw [← zl, ← z']
      exact ih
    · exact ⟨by omega, fun y => by omega⟩
theorem enough_mono {t : List Guest} (hn : 0 < t.length) {p : Nat} (hp : p < t.length) (f : Nat) (d c : Int) {m m' : Int} (h : m ≤ m') :
    (Fin (t.set p (c, some m)) f d).had p ≤ (Fin (t.set p (c, some m')) f d).had p ∧ ((Fin (t.set p (c, some m')) f d).had p = (Fin (t.set p (c, some m)) f d).had p → finL (t.set p (c, some m')) f d = finL (t.set p (c, some m)) f d) := by
  obtain ⟨k, rfl⟩ : ∃ k : Nat, m' = m + k := ⟨(m' - m).toNat, by omega⟩
  clear h
  induction k with
  | zero => rw [Int.natCast_zero, Int.add_zero]; exact ⟨Int.le_refl _, fun _ => rfl⟩
  | succ k ih =>
    have st := enough_step hn hp f d c (m + k)
    rw [show m + ((k + 1 : Nat) : Int) = m + k + 1 by omega]
    rcases st with z | z
    · have z' := congrFun z p
      have zl := finL_set z
      rw [zl, z']
      exact ih
    · exact ⟨by omega, fun y => by omega⟩
/-- so great an enough is as none -/
theorem enough_none {t : List Guest} {p : Nat} (hp : p < t.length) (f : Nat) {d c m : Int} (hc : 0 ≤ c) (hm : d ≤ m) : finL (t.set p (c, none)) f d = finL (t.set p (c, some m)) f d := by
  refine finL_set ?_
  have l1 : (t.set p (c, none)).length = t.length := List.length_set
  have l2 : (t.set p (c, some m)).length = t.length := List.length_set
  unfold Fin
  rw [l1, l2]
  refine congrArg D.S.had (D.same_run2 (fun k => ?_) (D.enoughVisits t.length d))
  generalize (f + k) % t.length = i
  have lt := D.had_left_le (g := D.gs (t.set p (c, some m))) (n := t.length) (f := f) (d := d) k p
  by_cases e : i = p
  · rw [e]
    unfold D.wants
    rw [gs_set hp, gs_set hp]
    refine ⟨fun w => ⟨w.1, fun x hx => ?_⟩, fun w => ⟨w.1, fun x hx => by cases hx⟩⟩
    cases hx
    have := w.1
    simp only at this
    omega
  · unfold D.wants
    rw [gs_setP e, gs_setP e]
/-- which courtesies bring the shares s -/
def CourtO (t : List Guest) (f : Nat) (d : Int) (p : Nat) (s : List Int) : Option (Int × Int) → Prop
  | none => ∀ c, 0 ≤ c → c ≤ 1000000000000000000 → finL (t.set p (c, (D.gs t p).2)) f d ≠ s
  | some (lo, hi) => 0 ≤ lo ∧ lo ≤ hi ∧ hi ≤ 1000000000000000000 ∧ ∀ c, 0 ≤ c → c ≤ 1000000000000000000 → (finL (t.set p (c, (D.gs t p).2)) f d = s ↔ lo ≤ c ∧ c ≤ hi)
/-- which enoughs do -/
def EnoughO (t : List Guest) (f : Nat) (d : Int) (p : Nat) (s : List Int) : Option (Int × Option Int) → Prop
  | none => finL (t.set p ((D.gs t p).1, none)) f d ≠ s ∧ ∀ e, 0 ≤ e → e ≤ 1000000000000000000 → finL (t.set p ((D.gs t p).1, some e)) f d ≠ s
  | some (lo, hi) => 0 ≤ lo ∧ lo ≤ 1000000000000000000 ∧ (∀ e, 0 ≤ e → e ≤ 1000000000000000000 → (finL (t.set p ((D.gs t p).1, some e)) f d = s ↔ lo ≤ e ∧ ∀ h, hi = some h → e ≤ h)) ∧ (hi = none ↔ finL (t.set p ((D.gs t p).1, none)) f d = s) ∧ ∀ h, hi = some h → lo ≤ h ∧ h < 1000000000000000000
end Lp
namespace Lp
open PySem PySem.Spec PyProof.Rows L2
section
variable {P : Program} {w : World} {K : PySem.W.Frag} {mg : Str → Option Value} {base : Heap}
/-- with_guest -/
def spGuestIn (K : PySem.W.Frag) : Sp := fun vs H Q _ => ∃ (a : Addr) (t : List Guest) (p : Nat) (u : Addr) (g : Guest), vs = [.ref a, .int (p : Int), .ref u] ∧ TableAt K H a t ∧ t.length ≤ 8 ∧ p < t.length ∧ SqT K H u [.int g.1, optV g.2] ∧
  ∀ (a' : Addr) (H' : Hp), Same H H' → TableAt K H' a' (t.set p g) → Q (.ref a') H'
theorem take_drop_put {α : Type} (l : List α) {p : Nat} (hp : p < l.length) (x : α) : l.take p ++ [x] ++ l.drop (p + 1) = l.set p x := by
  rw [List.set_eq_take_append_cons_drop, if_pos hp, List.append_assoc]
  rfl
theorem sc_with_guest : FnScope ["table", "seat", "guest"] ["table", "seat", "guest"] (defScope s_with_guest) := ⟨rfl, rfl, rfl, by decide +kernel, rfl, by decide +kernel, by decide +kernel⟩
theorem ok_with_guest {f : Addr} {fd : FuncData} (F : L2.Fun K "with_guest" "with_guest" s_with_guest f fd) : FnOk P w K mg base L2.CX0 1 f fd ["table", "seat", "guest"] (spGuestIn K) := by
  refine F.ok sc_with_guest (fun vs H Q E h => ?_) (fun cdv A outer s H vs Q E hr h => ?_)
  · obtain ⟨a, t, p, u, g, rfl, _⟩ := h
    rfl
  · obtain ⟨a, t, p, u, g, rfl, tb, n8, hp, hu, k⟩ := h
    obtain ⟨xs, hx, hl, hg⟩ := tb.open
    refine ⟨_, (pss_one (ps_ret (pe_op op_catA (pe_op op_catA (pe_slice sl_tup (pv 0) po_none (po_some (pv 1))) (pe_tup (pa_cons (pv 2) pa_nil))) (pe_slice sl_tup (pv 0) (po_some (pe_op op_add (pv 1) pe_int)) po_none)))), ?_⟩
    refine ⟨_, rfl, _, rfl, _, rfl, a, xs, rfl, hx, ?_, fun r1 hr1 => ?_⟩
    · rw [HT.sIx_none, HT.sIx_nat]
      omega
    rw [cut_take]
    have s1 := same_upd (o := .tup (xs.take p)) hr1
    refine ⟨_, rfl, by show 1 ≤ sizeLine; decide, fun r2 hr2 => ?_⟩
    have s2 := same_upd (o := .tup [.ref u]) hr2
    have s12 := Same.trans s1 s2
    refine cat_any (SqT.of (s2 _ _ upd_same)) (SqT.of upd_same) (by rw [List.length_take]; show _ + 1 ≤ 1000; omega) fun r3 H3 s3 h3 => ?_
    have s13 := Same.trans s12 s3
    refine ⟨_, rfl, _, rfl, _, _, rfl, rfl, _, rfl, a, xs, rfl, Same.sqt s13 hx, ?_, fun r4 hr4 => ?_⟩
    · rw [HT.sIx_none]
      show ¬ (HT.sIx xs.length 0 (some ((p + 1 : Nat) : Int)) = 0 ∧ _)
      rw [HT.sIx_nat]
      omega
    have e4 : cutV xs (some ((p : Int) + 1)) none = xs.drop (p + 1) := cut_drop xs (p + 1)
    have s4 := same_upd (o := .tup (cutV xs (some ((p : Int) + 1)) none)) hr4
    refine cat_any (Same.sqt s4 h3) (SqT.of upd_same) ?_ fun r5 H5 s5 h5 => ?_
    · rw [e4, List.length_append, List.length_take, List.length_drop]
      show _ + 1 + _ ≤ _
      omega
    have s15 := Same.trans (Same.trans s13 s4) s5
    rw [e4, take_drop_put xs (by omega)] at h5
    refine k r5 H5 s15 (.ofRefs h5 (by rw [List.length_set, List.length_set, hl]) fun i g' hi => ?_)
    by_cases e : i = p
    · subst e
      rw [List.getElem?_set_self hp] at hi
      cases hi
      exact ⟨u, by rw [List.getElem?_set_self (by omega)], Same.sqt s15 hu⟩
    · rw [List.getElem?_set_ne (Ne.symm e)] at hi
      obtain ⟨q, h1, h2⟩ := hg i g' hi
      exact ⟨q, by rw [List.getElem?_set_ne (Ne.symm e)]; exact h1, Same.sqt s15 h2⟩
def spNeedSeen (K : PySem.W.Frag) : Sp := fun vs H Q _ => ∃ (a w : Addr) (t : List Guest) (d : Int) (ns : List Int) (p f : Nat), vs = [.ref a, .int d, .ref w, .int (p : Int), .int (f : Int)] ∧ TableAt K H a t ∧ TabOk t ∧ 0 ≤ d ∧ d ≤ 1000000000000000000 ∧ SqL K H w (ns.map V.int) ∧ ns.length = t.length ∧ (∀ m ∈ ns, 0 ≤ m ∧ m ≤ 1000000000000000000) ∧ p < t.length ∧ f < t.length ∧ ∀ H', Same H H' → Q .non H'
theorem sc_need_seen : FnScope ["table", "dish", "shares", "seat", "first"] ["table", "dish", "shares", "seat", "first"] (defScope s_need_seen) := ⟨rfl, rfl, rfl, by decide +kernel, rfl, by decide +kernel, by decide +kernel⟩
theorem ok_need_seen {f : Addr} {fd : FuncData} (F : L2.Fun K "need_seen" "need_seen" s_need_seen f fd) (c_need_asked : Cal P w K mg base 5 "need_asked" (spNeedAsked K)) (c_need_shares : Cal P w K mg base 2 "need_shares" (spNeedShares K)) (c_need_seat : Cal P w K mg base 2 "need_seat" (spNeedSeat K)) : FnOk P w K mg base L2.CX0 6 f fd ["table", "dish", "shares", "seat", "first"] (spNeedSeen K) := by
  refine F.ok sc_need_seen (fun vs H Q E h => ?_) (fun cdv A outer s H vs Q E hr h => ?_)
  · obtain ⟨_, _, _, _, _, _, _, rfl, _⟩ := h
    rfl
  · obtain ⟨a, w, t, d, ns, p, fs, rfl, tb, ok, d0, d1, hw, hl, bd, hp, hf, k⟩ := h
    have n8 : t.length ≤ 8 := ok.2.1
    refine ⟨_, (pss_cons (ps_expr (pe_g c_need_asked hr (pa_cons (pv 0) (pa_cons (pv 1) pa_nil))))
      (pss_cons (ps_expr (pe_g c_need_shares hr (pa_cons (pv 0) (pa_cons (pv 2) pa_nil))))
      (pss_cons (ps_expr (pe_g c_need_seat hr (pa_cons (pv 0) (pa_cons (pv 3) pa_nil))))
      (pss_one (ps_expr (pe_g c_need_seat hr (pa_cons (pv 0) (pa_cons (pv 4) pa_nil)))))))), ?_⟩
    refine ⟨_, rfl, _, rfl, a, t, d, rfl, tb, ok, d0, d1, fun H1 s1 => ?_⟩
    obtain ⟨xs, hx, hxl, _⟩ := (tb.same s1).open
    refine ⟨_, rfl, _, rfl, a, w, xs, ns, rfl, hx, (Same.evn s1).sql hw, by rw [hxl]; exact hl, by rw [hxl]; exact n8, bd, fun H2 s2 => ?_⟩
    refine ⟨_, rfl, _, rfl, a, xs, p, rfl, Same.sqt s2 hx, by rw [hxl]; exact hp, ?_⟩
    exact ⟨_, rfl, _, rfl, a, xs, fs, rfl, Same.sqt s2 hx, by rw [hxl]; exact hf, k H2 (Same.trans s1 s2)⟩
end
end Lp
namespace Lp
open PySem PySem.Spec PyProof.Rows L2 LamX NdefX
/-! ### a def with the keyword first, its code object known -/
structure FunDC (K : PySem.W.Frag) (x qual : Str) (st : Stmt) (f c : Addr) (fd : FuncData) : Prop where
  fn : FunD K x qual (defArgs st) (defBody st) (defScope st) [] [("first", .int 0)] f fd
  code : fd.code = .ref c
theorem FunDC.ok {P : Program} {w : World} {K : PySem.W.Frag} {mg : Str → Option Value} {base : Heap} {x qual : Str} {st : Stmt} {f c : Addr} {fd : FuncData} {N ps : List Str} {k : Nat} {sp : Sp} (F : FunDC K x qual st f c fd) (S : FnScope N ps (defScope st)) (ln : ∀ vs H Q E, sp vs H Q E → vs.length = ps.length)
    (go : ∀ (A : Around) (outer : List Env) (s : Shared) (H : Hp) (vs : List V) (Q : VK) (E : XK), Room k (A.deeper (envOfC qual (defScope st) s.heap.objs.size f (.ref c))) → sp vs H Q E →
      ∃ t, PSs (cxOf L2.CX0 P w K mg base N qual (defScope st) f (.ref c) A outer s H E).nox (defBody st) t ∧ t { nx := fun _ H' => Q .non H', rt := Q } (L2.start N vs) H) : FnOk P w K mg base L2.CX0 (k + 1) f fd ps sp := by
  obtain ⟨oc, od, dV, kV, doc, pm, an, cdv, ct, osl, rfl, lk, hcd, _, _⟩ := F.fn.ex
  have e : cdv = .ref c := F.code
  subst e
  exact fn_of lk hcd S ln fun A outer s H vs Q E hr hsp => (go A outer s H vs Q E hr hsp).imp fun t h => ⟨h.1.nox, h.2⟩
/-! ### told, of both defs -/
def nthS (st : Stmt) (i : Nat) : Stmt := (defBody st).getD i (.Pass ⟨0, 0, 0, 0⟩)
def posOf : Stmt → Pos
  | .FunctionDef _ _ _ _ _ _ _ _ _ pos => pos
  | _ => ⟨0, 0, 0, 0⟩
/-- told: the dish with the guest (c, o) in the place; mk: which of the two is handed in -/
def spTold8 (K : PySem.W.Frag) (own : Guest → V) (other : Guest → V) (ws : List (Option V)) : Sp := fun vs H Q _ => ∃ (a : Addr) (t : List Guest) (f p : Nat) (d : Int) (g : Guest),
  ws = [some (.ref a), some (.int (p : Int)), some (other g), some (.int d), some (.int (f : Int))] ∧ vs = [own g] ∧ TableAt K H a t ∧ TabOk (t.set p g) ∧ p < t.length ∧ f < t.length ∧ 0 ≤ d ∧
  ∀ (l : Addr) (H' : Hp), Same H H' → H l = none → H' l = some (.lst ((finL (t.set p g) f d).map V.int)) → Q (.ref l) H'
def ownC (g : Guest) : V := .int g.1
def ownE (g : Guest) : V := optV g.2
abbrev c_told : Stmt := nthS s_courtesies 2
abbrev e_told : Stmt := nthS s_enoughs 2
abbrev c_frees : List Str := ["table", "seat", "enough", "dish", "first"]
abbrev e_frees : List Str := ["table", "seat", "courtesy", "dish", "first"]
section
variable {P : Program} {w : World} {K : PySem.W.Frag} {mg : Str → Option Value} {base : Heap}
theorem told_c (c_rested : Cal P w K mg base 4 "rested" (spRested K)) (c_with_guest : Cal P w K mg base 1 "with_guest" (spGuestIn K)) {qual : Str} {cl : List (Str × Addr)} (f c : Addr) :
    NOk P w K mg base L2.CX0 5 f (NF.of c_told "told" qual cl c) ["courtesy"] c_frees (spTold8 K ownC ownE) := by
  refine nok_of (N := ["courtesy", "table", "seat", "enough", "dish", "first"]) (show NScope _ _ _ (C8.fnScope c_told) from nscope_by (by decide +kernel)) (fun doc pm ctv us hl => match us, hl with | [_], _ => rfl) (fun ws vs H Q E h => ?_) fun A outer s H vs ws Q E hr hf hc hl h => ?_
  · obtain ⟨_, _, _, _, _, _, _, rfl, _⟩ := h
    rfl
  · obtain ⟨a, t, fs, p, d, ⟨c, o⟩, rfl, rfl, tb, ok, hp, hfs, d0, q⟩ := h
    have n8 : t.length ≤ 8 := by have := ok.2.1; rw [List.length_set] at this; exact this
    refine ⟨_, pss_one (ps_ret (pe_ix ix_tup (pe_g c_rested hr (pa_cons (pe_g c_with_guest hr (pa_cons (pe_var (i := 1) rfl (by right; right; rfl)) (pa_cons (pe_var (i := 2) rfl (by right; right; rfl)) (pa_cons (pe_tup (pa_cons (pe_var (i := 0) rfl (by left; rfl)) (pa_cons (pe_var (i := 3) rfl (by right; right; rfl)) pa_nil))) pa_nil))))
      (pa_cons (pe_var (i := 4) rfl (by right; right; rfl)) (pa_cons (pe_var (i := 5) rfl (by right; right; rfl)) pa_nil)))) pe_int (fun _ _ => rfl))), ?_⟩
    refine ⟨_, rfl, _, rfl, _, rfl, _, rfl, by show 2 ≤ sizeLine; decide, fun u hu => ?_⟩
    have s1 := same_upd (o := .tup [.int c, optV o]) hu
    refine ⟨a, t, p, u, (c, o), rfl, tb.same s1, n8, hp, SqT.of upd_same, fun a' H2 s2 tb2 => ?_⟩
    refine ⟨_, rfl, _, rfl, a', t.set p (c, o), fs, d, rfl, tb2, ok, by rw [List.length_set]; exact hfs, d0, fun q1 l H3 s3 nl hq hl3 => ?_⟩
    exact ⟨q1, _, _, _, rfl, rfl, SqT.of hq, rfl, q l H3 (Same.trans (Same.trans s1 s2) s3) ((Same.evo (Same.trans s1 s2)).free nl) hl3⟩
theorem told_e (c_rested : Cal P w K mg base 4 "rested" (spRested K)) (c_with_guest : Cal P w K mg base 1 "with_guest" (spGuestIn K)) {qual : Str} {cl : List (Str × Addr)} (f c : Addr) :
    NOk P w K mg base L2.CX0 5 f (NF.of e_told "told" qual cl c) ["enough"] e_frees (spTold8 K ownE ownC) := by
  refine nok_of (N := ["enough", "table", "seat", "courtesy", "dish", "first"]) (show NScope _ _ _ (C8.fnScope e_told) from nscope_by (by decide +kernel)) (fun doc pm ctv us hl => match us, hl with | [_], _ => rfl) (fun ws vs H Q E h => ?_) fun A outer s H vs ws Q E hr hf hc hl h => ?_
  · obtain ⟨_, _, _, _, _, _, _, rfl, _⟩ := h
    rfl
  · obtain ⟨a, t, fs, p, d, ⟨c, o⟩, rfl, rfl, tb, ok, hp, hfs, d0, q⟩ := h
    have n8 : t.length ≤ 8 := by have := ok.2.1; rw [List.length_set] at this; exact this
    refine ⟨_, pss_one (ps_ret (pe_ix ix_tup (pe_g c_rested hr (pa_cons (pe_g c_with_guest hr (pa_cons (pe_var (i := 1) rfl (by right; right; rfl)) (pa_cons (pe_var (i := 2) rfl (by right; right; rfl)) (pa_cons (pe_tup (pa_cons (pe_var (i := 3) rfl (by right; right; rfl)) (pa_cons (pe_var (i := 0) rfl (by left; rfl)) pa_nil))) pa_nil))))
      (pa_cons (pe_var (i := 4) rfl (by right; right; rfl)) (pa_cons (pe_var (i := 5) rfl (by right; right; rfl)) pa_nil)))) pe_int (fun _ _ => rfl))), ?_⟩
    refine ⟨_, rfl, _, rfl, _, rfl, _, rfl, by show 2 ≤ sizeLine; decide, fun u hu => ?_⟩
    have s1 := same_upd (o := .tup [.int c, optV o]) hu
    refine ⟨a, t, p, u, (c, o), rfl, tb.same s1, n8, hp, SqT.of upd_same, fun a' H2 s2 tb2 => ?_⟩
    refine ⟨_, rfl, _, rfl, a', t.set p (c, o), fs, d, rfl, tb2, ok, by rw [List.length_set]; exact hfs, d0, fun q1 l H3 s3 nl hq hl3 => ?_⟩
    exact ⟨q1, _, _, _, rfl, rfl, SqT.of hq, rfl, q l H3 (Same.trans (Same.trans s1 s2) s3) ((Same.evo (Same.trans s1 s2)).free nl) hl3⟩
end
end Lp
namespace Lp
open PySem PySem.Spec PyProof.Rows L2 LamX NdefX
def second : Expr → Expr
  | .Tuple es _ _ => es.getD 1 (.Constant .none 0 ⟨0, 0, 0, 0⟩)
  | e => e
def leftOf : Expr → Expr
  | .BinOp a _ _ _ => a
  | e => e
abbrev c_lam1 : Expr := lastArg (retOf (nthS s_courtesies 3))
abbrev c_lam2 : Expr := lastArg (leftOf (second (retOf (nthS s_courtesies 6))))
abbrev e_lam1 : Expr := lastArg (retOf (nthS s_enoughs 4))
abbrev e_lam2 : Expr := lastArg (leftOf (second (retOf (nthS s_enoughs 7))))
abbrev c_big : List Str := ["table", "dish", "seat", "first", "due", "enough", "told"]
abbrev e_big : List Str := ["table", "dish", "seat", "first", "due", "courtesy", "told"]
def lamF (lam : Expr) (qual : Str) (cells : List (Str × Addr)) (c : Addr) : NF := ⟨"<lambda>", qual, lamA lam, [], lamS lam, cloFrom cells (lamS lam).names [], c⟩
def c_toldF (n : Nat) (c : Addr) : NF := NF.of c_told "told" "courtesies.<locals>.told" (cloFrom (cellsFrom n (defScope s_courtesies).names []) (C8.fnScope c_told).names []) c
def e_toldF (n : Nat) (c : Addr) : NF := NF.of e_told "told" "enoughs.<locals>.told" (cloFrom (cellsFrom n (defScope s_enoughs).names []) (C8.fnScope e_told).names []) c
/-- a lambda over told: what the own guest then has, beside what is due -/
def spLam8 (K : PySem.W.Frag) (own other : Guest → V) (rel : Int → Int → Bool) (F : Addr → NF) (ws : List (Option V)) : Sp := fun vs H Q _ => ∃ (a : Addr) (t : List Guest) (f p : Nat) (d : Int) (g : Guest) (due : Int) (ft ct : Addr),
  ws = [some (.ref a), some (.int d), some (.int (p : Int)), some (.int (f : Int)), some (.int due), some (other g), some (.ref ft)] ∧ vs = [own g] ∧ KnN ft (F ct) H ∧ TableAt K H a t ∧ TabOk (t.set p g) ∧ p < t.length ∧ f < t.length ∧ 0 ≤ d ∧
  ∀ H', Same H H' → Q (.bl (rel ((Fin (t.set p g) f d).had p) due)) H'
theorem c_capT : capB (defScope s_courtesies) (C8.fnScope c_told) c_frees = true := by decide +kernel
theorem e_capT : capB (defScope s_enoughs) (C8.fnScope e_told) e_frees = true := by decide +kernel
theorem c_cap1 : capB (defScope s_courtesies) (lamS c_lam1) ["told", "seat", "due"] = true := by decide +kernel
theorem c_cap2 : capB (defScope s_courtesies) (lamS c_lam2) ["told", "seat", "due"] = true := by decide +kernel
theorem e_cap1 : capB (defScope s_enoughs) (lamS e_lam1) ["told", "seat", "due"] = true := by decide +kernel
theorem e_cap2 : capB (defScope s_enoughs) (lamS e_lam2) ["told", "seat", "due"] = true := by decide +kernel
section
variable {P : Program} {w : World} {K : PySem.W.Frag} {mg : Str → Option Value} {base : Heap}
theorem c_vok1 {n : Nat} (c_rested : Cal P w K mg base 4 "rested" (spRested K)) (c_with_guest : Cal P w K mg base 1 "with_guest" (spGuestIn K)) (f c : Addr) :
    VOk P w K mg base 6 (KnL f (lamF c_lam1 "courtesies.<locals>.<lambda>" (cellsFrom n (defScope s_courtesies).names []) c) (lamB c_lam1)) f (cellsFrom n (defScope s_courtesies).names []) c_big (spLam8 K ownC ownE (fun x y => decide (x ≤ y)) (c_toldF n)) := by
  refine vok_lam (N := ["courtesy", "told", "seat", "due"]) (ps := ["courtesy"]) (frL := ["told", "seat", "due"]) (js := [6, 2, 4]) (show NScope _ _ _ (lamS c_lam1) from nscope_by (by decide +kernel)) (fun pm tup us hl => match us, hl with | [_], _ => rfl) (fun ws vs H Q E h => ?_) (cap_sub c_cap1) (cap_sup c_cap1) rfl fun A outer s H vs ws Q hr kn C h => ?_
  · obtain ⟨_, _, _, _, _, _, _, _, _, _, rfl, _⟩ := h
    rfl
  · obtain ⟨a, t, fs, p, d, g, due, ft, ct, rfl, rfl, kt, tb, ok, hp, hf, d0, q⟩ := h
    have vt := vok_nok (fr := c_big) (js := [0, 2, 5, 1, 3]) (told_c (qual := "courtesies.<locals>.told") (cl := cloFrom (cellsFrom n (defScope s_courtesies).names []) (C8.fnScope c_told).names []) c_rested c_with_guest ft ct) (cap_sub c_capT) (cap_sup c_capT) rfl
    refine ⟨_, (pe_cmpR op_le (pe_ix ix_list (pe_callW (i := 1) vt (fun hp H ok q => fnAtN ok q) C rfl hr rfl (by right; right; rfl) (pa_cons (pe_var (i := 0) rfl (by left; rfl)) pa_nil) (Nat.le_refl _)) (pe_var (i := 2) rfl (by right; right; rfl)) (fun _ _ => rfl)) (pe_var (i := 3) rfl (by right; right; rfl)) (nomark _)), ?_⟩
    refine ⟨rfl, kt, _, rfl, kt, a, t, fs, p, d, g, rfl, rfl, tb, ok, hp, hf, d0, fun l H1 s1 nl hl => ?_⟩
    exact ⟨_, rfl, l, _, _, _, rfl, rfl, SqL.of hl, atI_nat (map_at (finL_get (by rw [List.length_set]; exact hp))), _, rfl, _, _, rfl, rfl, q H1 s1⟩
theorem c_vok2 {n : Nat} (c_rested : Cal P w K mg base 4 "rested" (spRested K)) (c_with_guest : Cal P w K mg base 1 "with_guest" (spGuestIn K)) (f c : Addr) :
    VOk P w K mg base 6 (KnL f (lamF c_lam2 "courtesies.<locals>.<lambda>" (cellsFrom n (defScope s_courtesies).names []) c) (lamB c_lam2)) f (cellsFrom n (defScope s_courtesies).names []) c_big (spLam8 K ownC ownE (fun x y => decide (x < y)) (c_toldF n)) := by
  refine vok_lam (N := ["courtesy", "told", "seat", "due"]) (ps := ["courtesy"]) (frL := ["told", "seat", "due"]) (js := [6, 2, 4]) (show NScope _ _ _ (lamS c_lam2) from nscope_by (by decide +kernel)) (fun pm tup us hl => match us, hl with | [_], _ => rfl) (fun ws vs H Q E h => ?_) (cap_sub c_cap2) (cap_sup c_cap2) rfl fun A outer s H vs ws Q hr kn C h => ?_
  · obtain ⟨_, _, _, _, _, _, _, _, _, _, rfl, _⟩ := h
    rfl
  · obtain ⟨a, t, fs, p, d, g, due, ft, ct, rfl, rfl, kt, tb, ok, hp, hf, d0, q⟩ := h
    have vt := vok_nok (fr := c_big) (js := [0, 2, 5, 1, 3]) (told_c (qual := "courtesies.<locals>.told") (cl := cloFrom (cellsFrom n (defScope s_courtesies).names []) (C8.fnScope c_told).names []) c_rested c_with_guest ft ct) (cap_sub c_capT) (cap_sup c_capT) rfl
    refine ⟨_, (pe_cmpR op_lt (pe_ix ix_list (pe_callW (i := 1) vt (fun hp H ok q => fnAtN ok q) C rfl hr rfl (by right; right; rfl) (pa_cons (pe_var (i := 0) rfl (by left; rfl)) pa_nil) (Nat.le_refl _)) (pe_var (i := 2) rfl (by right; right; rfl)) (fun _ _ => rfl)) (pe_var (i := 3) rfl (by right; right; rfl)) (nomark _)), ?_⟩
    refine ⟨rfl, kt, _, rfl, kt, a, t, fs, p, d, g, rfl, rfl, tb, ok, hp, hf, d0, fun l H1 s1 nl hl => ?_⟩
    exact ⟨_, rfl, l, _, _, _, rfl, rfl, SqL.of hl, atI_nat (map_at (finL_get (by rw [List.length_set]; exact hp))), _, rfl, _, _, rfl, rfl, q H1 s1⟩
theorem e_vok1 {n : Nat} (c_rested : Cal P w K mg base 4 "rested" (spRested K)) (c_with_guest : Cal P w K mg base 1 "with_guest" (spGuestIn K)) (f c : Addr) :
    VOk P w K mg base 6 (KnL f (lamF e_lam1 "enoughs.<locals>.<lambda>" (cellsFrom n (defScope s_enoughs).names []) c) (lamB e_lam1)) f (cellsFrom n (defScope s_enoughs).names []) e_big (spLam8 K ownE ownC (fun x y => decide (y ≤ x)) (e_toldF n)) := by
  refine vok_lam (N := ["enough", "told", "seat", "due"]) (ps := ["enough"]) (frL := ["told", "seat", "due"]) (js := [6, 2, 4]) (show NScope _ _ _ (lamS e_lam1) from nscope_by (by decide +kernel)) (fun pm tup us hl => match us, hl with | [_], _ => rfl) (fun ws vs H Q E h => ?_) (cap_sub e_cap1) (cap_sup e_cap1) rfl fun A outer s H vs ws Q hr kn C h => ?_
  · obtain ⟨_, _, _, _, _, _, _, _, _, _, rfl, _⟩ := h
    rfl
  · obtain ⟨a, t, fs, p, d, g, due, ft, ct, rfl, rfl, kt, tb, ok, hp, hf, d0, q⟩ := h
    have vt := vok_nok (fr := e_big) (js := [0, 2, 5, 1, 3]) (told_e (qual := "enoughs.<locals>.told") (cl := cloFrom (cellsFrom n (defScope s_enoughs).names []) (C8.fnScope e_told).names []) c_rested c_with_guest ft ct) (cap_sub e_capT) (cap_sup e_capT) rfl
    refine ⟨_, (pe_cmpR op_ge (pe_ix ix_list (pe_callW (i := 1) vt (fun hp H ok q => fnAtN ok q) C rfl hr rfl (by right; right; rfl) (pa_cons (pe_var (i := 0) rfl (by left; rfl)) pa_nil) (Nat.le_refl _)) (pe_var (i := 2) rfl (by right; right; rfl)) (fun _ _ => rfl)) (pe_var (i := 3) rfl (by right; right; rfl)) (nomark _)), ?_⟩
    refine ⟨rfl, kt, _, rfl, kt, a, t, fs, p, d, g, rfl, rfl, tb, ok, hp, hf, d0, fun l H1 s1 nl hl => ?_⟩
    exact ⟨_, rfl, l, _, _, _, rfl, rfl, SqL.of hl, atI_nat (map_at (finL_get (by rw [List.length_set]; exact hp))), _, rfl, _, _, rfl, rfl, q H1 s1⟩
theorem e_vok2 {n : Nat} (c_rested : Cal P w K mg base 4 "rested" (spRested K)) (c_with_guest : Cal P w K mg base 1 "with_guest" (spGuestIn K)) (f c : Addr) :
    VOk P w K mg base 6 (KnL f (lamF e_lam2 "enoughs.<locals>.<lambda>" (cellsFrom n (defScope s_enoughs).names []) c) (lamB e_lam2)) f (cellsFrom n (defScope s_enoughs).names []) e_big (spLam8 K ownE ownC (fun x y => decide (y < x)) (e_toldF n)) := by
  refine vok_lam (N := ["enough", "told", "seat", "due"]) (ps := ["enough"]) (frL := ["told", "seat", "due"]) (js := [6, 2, 4]) (show NScope _ _ _ (lamS e_lam2) from nscope_by (by decide +kernel)) (fun pm tup us hl => match us, hl with | [_], _ => rfl) (fun ws vs H Q E h => ?_) (cap_sub e_cap2) (cap_sup e_cap2) rfl fun A outer s H vs ws Q hr kn C h => ?_
  · obtain ⟨_, _, _, _, _, _, _, _, _, _, rfl, _⟩ := h
    rfl
  · obtain ⟨a, t, fs, p, d, g, due, ft, ct, rfl, rfl, kt, tb, ok, hp, hf, d0, q⟩ := h
    have vt := vok_nok (fr := e_big) (js := [0, 2, 5, 1, 3]) (told_e (qual := "enoughs.<locals>.told") (cl := cloFrom (cellsFrom n (defScope s_enoughs).names []) (C8.fnScope e_told).names []) c_rested c_with_guest ft ct) (cap_sub e_capT) (cap_sup e_capT) rfl
    refine ⟨_, (pe_cmpR op_gt (pe_ix ix_list (pe_callW (i := 1) vt (fun hp H ok q => fnAtN ok q) C rfl hr rfl (by right; right; rfl) (pa_cons (pe_var (i := 0) rfl (by left; rfl)) pa_nil) (Nat.le_refl _)) (pe_var (i := 2) rfl (by right; right; rfl)) (fun _ _ => rfl)) (pe_var (i := 3) rfl (by right; right; rfl)) (nomark _)), ?_⟩
    refine ⟨rfl, kt, _, rfl, kt, a, t, fs, p, d, g, rfl, rfl, tb, ok, hp, hf, d0, fun l H1 s1 nl hl => ?_⟩
    exact ⟨_, rfl, l, _, _, _, rfl, rfl, SqL.of hl, atI_nat (map_at (finL_get (by rw [List.length_set]; exact hp))), _, rfl, _, _, rfl, rfl, q H1 s1⟩
end
end Lp
namespace D
theorem polite_none {g : Gs} {n f p : Nat} {d : Int} (h : d ≤ (g p).1) (k : Nat) : (run g n f d k).had p = 0 := by
  induction k with
  | zero => rfl
  | succ k ih =>
    rw [run_succ]
    by_cases e : p = (f + k) % n
    · rw [vis_no fun w => by
        have h1 := w.1
        rw [← e] at h1
        have h2 := left_le (g := g) (n := n) (f := f) (d := d) k
        omega]
      exact ih
    · unfold vis
      split
      · show bump _ _ p = 0
        rw [bump_ne _ e]
        exact ih
      · exact ih
end D
namespace Lp
open PySem PySem.Spec PyProof.Rows L2 LamX NdefX
def cName : Nat → Nat → Str := fun l c => if l = (posOf c_told).line ∧ c = (posOf c_told).col then "courtesies.<locals>.told" else "courtesies.<locals>.<lambda>"
def eName : Nat → Nat → Str := fun l c => if l = (posOf e_told).line ∧ c = (posOf e_told).col then "enoughs.<locals>.told" else "enoughs.<locals>.<lambda>"
theorem tabok_set {t : List Guest} (ok : TabOk t) {p : Nat} {g : Guest} (h1 : 0 ≤ g.1 ∧ g.1 ≤ 1000000000000000000) (h2 : ∀ m, g.2 = some m → 0 ≤ m ∧ m ≤ 1000000000000000000) : TabOk (t.set p g) :=
  ⟨by rw [List.length_set]; exact ok.1, by rw [List.length_set]; exact ok.2.1, fun x hx => by
    rcases List.mem_or_eq_of_mem_set hx with z | z
    · exact ok.2.2 x z
    · rw [z]; exact ⟨h1.1, h1.2, h2⟩⟩
def CourtV (K : PySem.W.Frag) (H : Hp) : Option (Int × Int) → V → Prop
  | none, v => v = .non
  | some (lo, hi), v => ∃ q, v = .ref q ∧ SqT K H q [.int lo, .int hi]
def EnoughV (K : PySem.W.Frag) (H : Hp) : Option (Int × Option Int) → V → Prop
  | none, v => v = .non
  | some (lo, hi), v => ∃ q, v = .ref q ∧ SqT K H q [.int lo, optV hi]
def spCourt (K : PySem.W.Frag) (T : List NTab) : Sp := fun vs H Q _ => ∃ (a w : Addr) (t : List Guest) (d : Int) (ns : List Int) (p f : Nat), vs = [.ref a, .int d, .ref w, .int (p : Int), .int (f : Int)] ∧ TableAt K H a t ∧ TabOk t ∧ 0 ≤ d ∧ d ≤ 1000000000000000000 ∧ SqL K H w (ns.map V.int) ∧ ns.length = t.length ∧ (∀ m ∈ ns, 0 ≤ m ∧ m ≤ 1000000000000000000) ∧ p < t.length ∧ f < t.length ∧ TabsN T H ∧
  ∀ (v : V) (o : Option (Int × Int)) (H' : Hp), EvN H H' → TabsN T H' → CourtV K H' o v → CourtO t f d p ns o → Q v H'
def spEnough (K : PySem.W.Frag) (T : List NTab) : Sp := fun vs H Q _ => ∃ (a w : Addr) (t : List Guest) (d : Int) (ns : List Int) (p f : Nat), vs = [.ref a, .int d, .ref w, .int (p : Int), .int (f : Int)] ∧ TableAt K H a t ∧ TabOk t ∧ 0 ≤ d ∧ d ≤ 1000000000000000000 ∧ SqL K H w (ns.map V.int) ∧ ns.length = t.length ∧ (∀ m ∈ ns, 0 ≤ m ∧ m ≤ 1000000000000000000) ∧ p < t.length ∧ f < t.length ∧ TabsN T H ∧
  ∀ (v : V) (o : Option (Int × Option Int)) (H' : Hp), EvN H H' → TabsN T H' → EnoughV K H' o v → EnoughO t f d p ns o → Q v H'
theorem EvN.knN {H H' : Hp} (e : EvN H H') {f : Addr} {F : NF} (h : KnN f F H) : KnN f F H' := ⟨e.1 _ _ h.1 fun ps => fnO_ne ps, e.1 _ _ h.2 fun ps => codeO_ne ps⟩
section
variable {P : Program} {w : World} {K : PySem.W.Frag} {mg : Str → Option Value} {base : Heap}
theorem sc_courtesies : FnScope ["table", "dish", "shares", "seat", "first", "due", "enough", "told", "least"] ["table", "dish", "shares", "seat", "first"] (defScope s_courtesies) := ⟨rfl, rfl, rfl, by decide +kernel, rfl, by decide +kernel, by decide +kernel⟩
theorem ok_courtesies {T : List NTab} {f c P' : Addr} {fd : FuncData} (F : FunDC K "courtesies" "courtesies" s_courtesies f c fd) (B : Bls mg) (G : Greatest mg) (TB : TabB base mg c P') (TI : TabIn T P' cName) (c_need_seen : Cal P w K mg base 6 "need_seen" (spNeedSeen K)) (c_with_guest : Cal P w K mg base 1 "with_guest" (spGuestIn K)) (c_rested : Cal P w K mg base 4 "rested" (spRested K)) (c_least_true : CalLT P w K mg base "least_true") :
    FnOk P w K mg base L2.CX0 8 f fd ["table", "dish", "shares", "seat", "first"] (spCourt K T) := by
  refine F.ok sc_courtesies (fun vs H Q E h => ?_) (fun A outer s H vs Q E hr h => ?_)
  · obtain ⟨_, _, _, _, _, _, _, rfl, _⟩ := h
    rfl
  · obtain ⟨a, w, t, d, ns, p, fs, rfl, tb, ok, d0, d1, hw, hl, bd, hp, hf, hT, q⟩ := h
    obtain ⟨gv, h_GREATEST, r_GREATEST⟩ := G
    refine ⟨_, (pss_cons (ps_expr (pe_g c_need_seen hr (pa_cons (pv 0) (pa_cons (pv 1) (pa_cons (pv 2) (pa_cons (pv 3) (pa_cons (pv 4) pa_nil)))))))
      (pss_cons (ps_asg (pe_tup (pa_cons (pe_ix ix_list (pv 2) (pv 3) (fun _ _ => rfl)) (pa_cons (pe_ix ix_tup (pe_ix ix_tup (pv 0) (pv 3) (fun _ _ => rfl)) pe_int (fun _ _ => rfl)) pa_nil))) (pg_tup (by rfl) (pgs_cons (pg_name (i := 5) sc_courtesies.nd rfl (Or.inr rfl)) (pgs_cons (pg_name (i := 6) sc_courtesies.nd rfl (Or.inr rfl)) pgs_nil))))
      (pss_cons (ps_ndefM (i := 7) TB rfl TI.mem rfl TI.uniq (fun y hy e => .inl (cap_cell c_capT y hy e)) rfl rfl rfl sc_courtesies.nd rfl (Or.inr rfl) (.inl rfl))
      (pss_cons (ps_set (i := 8) sc_courtesies.nd rfl (Or.inl rfl) (pe_lt (mk := fun c => lamF c_lam1 "courtesies.<locals>.<lambda>" (cellsFrom (s.heap.objs.size + 1) (defScope s_courtesies).names []) c) (b := lamB c_lam1) (js := [0, 1, 3, 4, 5, 6, 7]) c_least_true (c_vok1 c_rested c_with_guest) (fun _ => ⟨fun _ _ e => e, fun y hy => .inl ((by decide +kernel : ∀ y ∈ c_big, (defScope s_courtesies).names.lookup y = some .cell) y hy), fun _ _ _ e => e, rfl⟩) hr (by decide) (pa_cons pe_int (pa_cons (pe_glob (by rfl) h_GREATEST r_GREATEST) (pa_cons (pe_lam TB rfl TI.mem rfl TI.uniq (fun y hy e => .inl (cap_cell c_cap1 y hy e)) rfl) pa_nil)))))
      (pss_cons (ps_if (pt_cmpR (op_neD hr.units) (pe_calln (i := 7) (mk := fun c => NF.of c_told "told" "courtesies.<locals>.told" (cloFrom (cellsFrom (s.heap.objs.size + 1) (defScope s_courtesies).names []) (C8.fnScope c_told).names []) c) (js := [0, 3, 6, 1, 4]) (told_c c_rested c_with_guest) (fun _ => rfl) (fun ok => Caps.made ok (fun y hy e => .inl (cap_cell c_capT y hy e)) (cap_fr c_capT) rfl) hr (by decide) L2.pass0 rfl (by right; left; rfl) (pa_cons (pv 8) pa_nil)) (pv 2) (nomark _))
      (pss_one (ps_ret pe_non))
      pss_nil)
      (pss_cons (ps_if (pt_cmpR (op_eqD hr.units) (pe_calln (i := 7) (mk := fun c => NF.of c_told "told" "courtesies.<locals>.told" (cloFrom (cellsFrom (s.heap.objs.size + 1) (defScope s_courtesies).names []) (C8.fnScope c_told).names []) c) (js := [0, 3, 6, 1, 4]) (told_c c_rested c_with_guest) (fun _ => rfl) (fun ok => Caps.made ok (fun y hy e => .inl (cap_cell c_capT y hy e)) (cap_fr c_capT) rfl) hr (by decide) L2.pass0 rfl (by right; left; rfl) (pa_cons (pe_glob (by rfl) h_GREATEST r_GREATEST) pa_nil)) (pv 2) (nomark _))
      (pss_one (ps_ret (pe_tup (pa_cons (pv 8) (pa_cons (pe_glob (by rfl) h_GREATEST r_GREATEST) pa_nil)))))
      pss_nil)
      (pss_one (ps_ret (pe_tup (pa_cons (pv 8) (pa_cons (pe_op op_sub (pe_lt (mk := fun c => lamF c_lam2 "courtesies.<locals>.<lambda>" (cellsFrom (s.heap.objs.size + 1) (defScope s_courtesies).names []) c) (b := lamB c_lam2) (js := [0, 1, 3, 4, 5, 6, 7]) c_least_true (c_vok2 c_rested c_with_guest) (fun _ => ⟨fun _ _ e => e, fun y hy => .inl ((by decide +kernel : ∀ y ∈ c_big, (defScope s_courtesies).names.lookup y = some .cell) y hy), fun _ _ _ e => e, rfl⟩) hr (by decide) (pa_cons (pv 8) (pa_cons (pe_glob (by rfl) h_GREATEST r_GREATEST) (pa_cons (pe_lam TB rfl TI.mem rfl TI.uniq (fun y hy e => .inl (cap_cell c_cap2 y hy e)) rfl) pa_nil)))) pe_int) pa_nil))))))))))), ?_⟩
    refine ⟨_, rfl, _, rfl, _, rfl, _, rfl, _, rfl, a, w, t, d, ns, p, fs, rfl, tb, ok, d0, d1, hw, hl, bd, hp, hf, fun H1 s1 => ?_⟩
    obtain ⟨xs, hx, hxl, hg⟩ := (tb.same s1).open
    have hgt := List.getElem?_eq_getElem hp
    obtain ⟨pg, ep, hpg⟩ := hg p _ hgt
    have gi : D.gs t p = t[p] := gs_at hgt
    have gok := ok.2.2 _ (List.getElem_mem hp)
    generalize t[p] = g at hgt hpg gi gok
    obtain ⟨c0, o⟩ := g
    have hdue := List.getElem?_eq_getElem (show p < ns.length by omega)
    generalize ns[p] = due at hdue
    have due0 := (bd due (List.mem_of_getElem? hdue)).1
    have hw1 := (Same.evn s1).sql hw
    refine ⟨_, rfl, _, rfl, w, _, _, _, rfl, rfl, hw1, atI_nat (map_at hdue), _, rfl, _, rfl, a, xs, _, _, rfl, rfl, hx, atI_nat ep, pg, _, _, _, rfl, rfl, hpg, rfl, by show 2 ≤ sizeLine; decide, fun u hu => ⟨u, _, rfl, SqT.of upd_same, rfl, _, _, rfl, _, _, rfl, rfl, ?_⟩⟩
    have s2 := same_upd (o := .tup [.int due, optV o]) hu
    have s12 := Same.trans s1 s2
    generalize upd H1 u (.tup [.int due, optV o]) = H2 at s2 s12 ⊢
    -- def told
    refine nx_mk ⟨Same.tabs s12 hT, fun ft ct H3 x1 x2 hT3 nf hft hct => ?_⟩
    have e3 : EvN H H3 := (Same.evn s12).trans ⟨x1, x2⟩
    have kt : KnN ft (c_toldF (s.heap.objs.size + 1) ct) H3 := ⟨hft, hct⟩
    have tb3 := tb.evn e3
    have okc : ∀ m, 0 ≤ m → m ≤ 1000000000000000000 → TabOk (t.set p (m, o)) := fun m h0 h1 => tabok_set ok ⟨h0, h1⟩ gok.2.2
    -- the least
    refine nx_mk ⟨hT3, fun f' c' H4 y1 y2 hT4 hf' hc' => ?_⟩
    have e34 : EvN H3 H4 := ⟨y1, y2⟩
    have e4 : EvN H H4 := e3.trans e34
    have kt4 := e34.knN kt
    have tb4 := tb.evn e4
    have hpos : 0 < t.length := ok.1
    refine ⟨0, 1000000000000000000, f', c', fun m => decide ((Fin (t.set p (m, o)) fs d).had p ≤ due), rfl, ⟨hf', hc'⟩, by decide, fun m H' Q' s' l0 l1 k => ?_, fun m m' l0 l1 l2 h => ?_, fun r H5 s5 r0 rG bad gd => ?_⟩
    · exact ⟨a, t, fs, p, d, (m, o), due, ft, ct, rfl, rfl, ⟨s' _ _ kt4.1, s' _ _ kt4.2⟩, tb4.same s', okc m l0 (by omega), hp, hf, d0, k⟩
    · have := of_decide_eq_true h
      have up := (court_mono hpos hp fs d o l1).1
      exact decide_eq_true (by omega)
    have bad' : ∀ m, 0 ≤ m → m < r → ¬ (Fin (t.set p (m, o)) fs d).had p ≤ due := fun m h0 h1 => of_decide_eq_false (bad m h0 h1)
    have hr' : (Fin (t.set p (r, o)) fs d).had p ≤ due := by
      rcases Int.lt_or_le r 1000000000000000000 with z | z
      · exact of_decide_eq_true (gd r (Int.le_refl _) z)
      · have z0 : (Fin (t.set p (r, o)) fs d).had p = 0 := D.polite_none (by rw [gs_set hp]; show d ≤ r; omega) _
        omega
    have S := D.stretch (F := fun c => finL (t.set p (c, o)) fs d) (h := fun c => (Fin (t.set p (c, o)) fs d).had p) (s := ns) (due := due) (G := 1000000000000000000) (fun c c' h0 h1 h2 => court_mono hpos hp fs d o h1) (fun c h0 h1 e => (had_at e hdue).2) r0 rG bad' hr'
    have e45 := Same.evn s5
    have e5 := e4.trans e45
    have kt5 := e45.knN kt4
    have tb5 := tb.evn e5
    have hT5 := Same.tabs s5 hT4
    -- told(least)
    refine nx_mk ⟨ft, ct, rfl, kt5.1, _, rfl, kt5.1, kt5.2, a, t, fs, p, d, (r, o), rfl, rfl, tb5, okc r r0 rG, hp, hf, d0, fun l H6 s6 nl hl6 => ⟨_, rfl, ?_⟩⟩
    have e6 := e5.trans (Same.evn s6)
    have hT6 := Same.tabs s6 hT5
    have kt6 := (Same.evn s6).knN kt5
    refine ne_ints (SqL.of hl6) (e6.sql hw) ⟨_, rfl, ?_⟩
    by_cases eq : finL (t.set p (r, o)) fs d ≠ ns
    · rw [decide_eq_false eq]
      exact iteT (q .non none H6 e6 hT6 rfl fun m h0 h1 => by rw [gi]; exact S.1 eq m h0 h1)
    have eq := Decidable.of_not_not eq
    rw [decide_eq_true eq]
    refine iteF ?_
    -- told(GREATEST)
    refine next_mk ⟨ft, ct, rfl, kt6.1, kt6.1, kt6.2, a, t, fs, p, d, (1000000000000000000, o), rfl, rfl, tb.evn e6, okc _ (by decide) (by decide), hp, hf, d0, fun l7 H7 s7 nl7 hl7 => ⟨_, rfl, ?_⟩⟩
    have e7 := e6.trans (Same.evn s7)
    have hT7 := Same.tabs s7 hT6
    have kt7 := (Same.evn s7).knN kt6
    refine eq_ints (SqL.of hl7) (e7.sql hw) ⟨_, rfl, ?_⟩
    by_cases eqG : finL (t.set p (1000000000000000000, o)) fs d = ns
    · rw [decide_eq_true eqG]
      refine iteT ⟨_, rfl, by show 2 ≤ sizeLine; decide, fun r9 hr9 => ?_⟩
      have s9 := same_upd (o := .tup [.int r, .int 1000000000000000000]) hr9
      exact q (.ref r9) (some (r, 1000000000000000000)) _ (e7.trans (Same.evn s9)) (Same.tabs s9 hT7) ⟨r9, rfl, SqT.of upd_same⟩ ⟨r0, rG, Int.le_refl _, fun m h0 h1 => by rw [gi]; exact S.2.1 eq eqG m h0 h1⟩
    rw [decide_eq_false eqG]
    refine iteF (next_mk ⟨_, rfl, _, rfl, hT7, fun f2 c2 H8 z1 z2 hT8 hf2 hc2 => ?_⟩)
    have e78 : EvN H7 H8 := ⟨z1, z2⟩
    have e8 := e7.trans e78
    have kt8 := e78.knN kt7
    have tb8 := tb.evn e8
    refine ⟨r, 1000000000000000000, f2, c2, fun m => decide ((Fin (t.set p (m, o)) fs d).had p < due), rfl, ⟨hf2, hc2⟩, rG, fun m H' Q' s' l0 l1 k => ?_, fun m m' l0 l1 l2 h => ?_, fun r2 H9 s9 l1 l2 bad2 gd2 => ⟨_, _, rfl, rfl, by show 2 ≤ sizeLine; decide, fun r9 hr9 => ?_⟩⟩
    · exact ⟨a, t, fs, p, d, (m, o), due, ft, ct, rfl, rfl, ⟨s' _ _ kt8.1, s' _ _ kt8.2⟩, tb8.same s', okc m (by omega) (by omega), hp, hf, d0, k⟩
    · have := of_decide_eq_true h
      have up := (court_mono hpos hp fs d o l1).1
      exact decide_eq_true (by omega)
    have s10 := same_upd (o := .tup [.int r, .int (r2 - 1)]) hr9
    obtain ⟨b1, b2, b3⟩ := S.2.2 eq eqG r2 l1 l2 (fun m h0 h1 => of_decide_eq_false (bad2 m h0 h1)) (fun m h0 h1 => of_decide_eq_true (gd2 m h0 h1))
    exact q (.ref r9) (some (r, r2 - 1)) _ ((e8.trans (Same.evn s9)).trans (Same.evn s10)) (Same.tabs s10 (Same.tabs s9 hT8)) ⟨r9, rfl, SqT.of upd_same⟩ ⟨r0, b1, by omega, fun m h0 h1 => by rw [gi]; exact b3 m h0 h1⟩
theorem sc_enoughs : FnScope ["table", "dish", "shares", "seat", "first", "due", "courtesy", "told", "least"] ["table", "dish", "shares", "seat", "first"] (defScope s_enoughs) := ⟨rfl, rfl, rfl, by decide +kernel, rfl, by decide +kernel, by decide +kernel⟩
theorem ok_enoughs {T : List NTab} {f c P' : Addr} {fd : FuncData} (F : FunDC K "enoughs" "enoughs" s_enoughs f c fd) (B : Bls mg) (G : Greatest mg) (TB : TabB base mg c P') (TI : TabIn T P' eName) (c_need_seen : Cal P w K mg base 6 "need_seen" (spNeedSeen K)) (c_with_guest : Cal P w K mg base 1 "with_guest" (spGuestIn K)) (c_rested : Cal P w K mg base 4 "rested" (spRested K)) (c_least_true : CalLT P w K mg base "least_true") :
    FnOk P w K mg base L2.CX0 8 f fd ["table", "dish", "shares", "seat", "first"] (spEnough K T) := by
  refine F.ok sc_enoughs (fun vs H Q E h => ?_) (fun A outer s H vs Q E hr h => ?_)
  · obtain ⟨_, _, _, _, _, _, _, rfl, _⟩ := h
    rfl
  · obtain ⟨a, w, t, d, ns, p, fs, rfl, tb, ok, d0, d1, hw, hl, bd, hp, hf, hT, q⟩ := h
    obtain ⟨gv, h_GREATEST, r_GREATEST⟩ := G
    refine ⟨_, (pss_cons (ps_expr (pe_g c_need_seen hr (pa_cons (pv 0) (pa_cons (pv 1) (pa_cons (pv 2) (pa_cons (pv 3) (pa_cons (pv 4) pa_nil)))))))
      (pss_cons (ps_asg (pe_tup (pa_cons (pe_ix ix_list (pv 2) (pv 3) (fun _ _ => rfl)) (pa_cons (pe_ix ix_tup (pe_ix ix_tup (pv 0) (pv 3) (fun _ _ => rfl)) pe_int (fun _ _ => rfl)) pa_nil))) (pg_tup (by rfl) (pgs_cons (pg_name (i := 5) sc_enoughs.nd rfl (Or.inr rfl)) (pgs_cons (pg_name (i := 6) sc_enoughs.nd rfl (Or.inr rfl)) pgs_nil))))
      (pss_cons (ps_ndefM (i := 7) TB rfl TI.mem rfl TI.uniq (fun y hy e => .inl (cap_cell e_capT y hy e)) rfl rfl rfl sc_enoughs.nd rfl (Or.inr rfl) (.inl rfl))
      (pss_cons (ps_if (pt_cmpR op_lt (pe_ix ix_list (pe_calln (i := 7) (mk := fun c => NF.of e_told "told" "enoughs.<locals>.told" (cloFrom (cellsFrom (s.heap.objs.size + 1) (defScope s_enoughs).names []) (C8.fnScope e_told).names []) c) (js := [0, 3, 6, 1, 4]) (told_e c_rested c_with_guest) (fun _ => rfl) (fun ok => Caps.made ok (fun y hy e => .inl (cap_cell e_capT y hy e)) (cap_fr e_capT) rfl) hr (by decide) L2.pass0 rfl (by right; left; rfl) (pa_cons pe_non pa_nil)) (pv 3) (fun _ _ => rfl)) (pv 5) (nomark _))
      (pss_one (ps_ret pe_non))
      pss_nil)
      (pss_cons (ps_set (i := 8) sc_enoughs.nd rfl (Or.inl rfl) (pe_lt (mk := fun c => lamF e_lam1 "enoughs.<locals>.<lambda>" (cellsFrom (s.heap.objs.size + 1) (defScope s_enoughs).names []) c) (b := lamB e_lam1) (js := [0, 1, 3, 4, 5, 6, 7]) c_least_true (e_vok1 c_rested c_with_guest) (fun _ => ⟨fun _ _ e => e, fun y hy => .inl ((by decide +kernel : ∀ y ∈ e_big, (defScope s_enoughs).names.lookup y = some .cell) y hy), fun _ _ _ e => e, rfl⟩) hr (by decide) (pa_cons pe_int (pa_cons (pe_glob (by rfl) h_GREATEST r_GREATEST) (pa_cons (pe_lam TB rfl TI.mem rfl TI.uniq (fun y hy e => .inl (cap_cell e_cap1 y hy e)) rfl) pa_nil)))))
      (pss_cons (ps_if (pt_cmpR (op_neD hr.units) (pe_calln (i := 7) (mk := fun c => NF.of e_told "told" "enoughs.<locals>.told" (cloFrom (cellsFrom (s.heap.objs.size + 1) (defScope s_enoughs).names []) (C8.fnScope e_told).names []) c) (js := [0, 3, 6, 1, 4]) (told_e c_rested c_with_guest) (fun _ => rfl) (fun ok => Caps.made ok (fun y hy e => .inl (cap_cell e_capT y hy e)) (cap_fr e_capT) rfl) hr (by decide) L2.pass0 rfl (by right; left; rfl) (pa_cons (pv 8) pa_nil)) (pv 2) (nomark _))
      (pss_one (ps_ret pe_non))
      pss_nil)
      (pss_cons (ps_if (pt_cmpR (op_eqD hr.units) (pe_calln (i := 7) (mk := fun c => NF.of e_told "told" "enoughs.<locals>.told" (cloFrom (cellsFrom (s.heap.objs.size + 1) (defScope s_enoughs).names []) (C8.fnScope e_told).names []) c) (js := [0, 3, 6, 1, 4]) (told_e c_rested c_with_guest) (fun _ => rfl) (fun ok => Caps.made ok (fun y hy e => .inl (cap_cell e_capT y hy e)) (cap_fr e_capT) rfl) hr (by decide) L2.pass0 rfl (by right; left; rfl) (pa_cons pe_non pa_nil)) (pv 2) (nomark _))
      (pss_one (ps_ret (pe_tup (pa_cons (pv 8) (pa_cons pe_non pa_nil)))))
      pss_nil)
      (pss_one (ps_ret (pe_tup (pa_cons (pv 8) (pa_cons (pe_op op_sub (pe_lt (mk := fun c => lamF e_lam2 "enoughs.<locals>.<lambda>" (cellsFrom (s.heap.objs.size + 1) (defScope s_enoughs).names []) c) (b := lamB e_lam2) (js := [0, 1, 3, 4, 5, 6, 7]) c_least_true (e_vok2 c_rested c_with_guest) (fun _ => ⟨fun _ _ e => e, fun y hy => .inl ((by decide +kernel : ∀ y ∈ e_big, (defScope s_enoughs).names.lookup y = some .cell) y hy), fun _ _ _ e => e, rfl⟩) hr (by decide) (pa_cons (pv 8) (pa_cons (pe_glob (by rfl) h_GREATEST r_GREATEST) (pa_cons (pe_lam TB rfl TI.mem rfl TI.uniq (fun y hy e => .inl (cap_cell e_cap2 y hy e)) rfl) pa_nil)))) pe_int) pa_nil)))))))))))), ?_⟩
    refine ⟨_, rfl, _, rfl, _, rfl, _, rfl, _, rfl, a, w, t, d, ns, p, fs, rfl, tb, ok, d0, d1, hw, hl, bd, hp, hf, fun H1 s1 => ?_⟩
    obtain ⟨xs, hx, hxl, hg⟩ := (tb.same s1).open
    have hgt := List.getElem?_eq_getElem hp
    obtain ⟨pg, ep, hpg⟩ := hg p _ hgt
    have gi : D.gs t p = t[p] := gs_at hgt
    have gok := ok.2.2 _ (List.getElem_mem hp)
    generalize t[p] = g at hgt hpg gi gok
    obtain ⟨c0, o⟩ := g
    have hdue := List.getElem?_eq_getElem (show p < ns.length by omega)
    generalize ns[p] = due at hdue
    have hw1 := (Same.evn s1).sql hw
    refine ⟨_, rfl, _, rfl, w, _, _, _, rfl, rfl, hw1, atI_nat (map_at hdue), _, rfl, _, rfl, a, xs, _, _, rfl, rfl, hx, atI_nat ep, pg, _, _, _, rfl, rfl, hpg, rfl, by show 2 ≤ sizeLine; decide, fun u hu => ⟨u, _, rfl, SqT.of upd_same, rfl, _, _, rfl, _, _, rfl, rfl, ?_⟩⟩
    have s2 := same_upd (o := .tup [.int due, .int c0]) hu
    have s12 := Same.trans s1 s2
    -- def told
    refine nx_mk ⟨Same.tabs s12 hT, fun ft ct H3 x1 x2 hT3 nf hft hct => ?_⟩
    have e3 : EvN H H3 := (Same.evn s12).trans ⟨x1, x2⟩
    have kt : KnN ft (e_toldF (s.heap.objs.size + 1) ct) H3 := ⟨hft, hct⟩
    have tb3 := tb.evn e3
    have c00 : 0 ≤ c0 := gok.1
    have oke : ∀ m, 0 ≤ m → m ≤ 1000000000000000000 → TabOk (t.set p (c0, some m)) := fun m h0 h1 => tabok_set ok ⟨gok.1, gok.2.1⟩ fun x hx => by cases hx; exact ⟨h0, h1⟩
    have okn : TabOk (t.set p (c0, none)) := tabok_set ok ⟨gok.1, gok.2.1⟩ fun x hx => by cases hx
    have hpos : 0 < t.length := ok.1
    have eqN : finL (t.set p (c0, none)) fs d = finL (t.set p (c0, some 1000000000000000000)) fs d := enough_none hp fs c00 d1
    have hadN : (Fin (t.set p (c0, none)) fs d).had p = (Fin (t.set p (c0, some 1000000000000000000)) fs d).had p := by
      have z1 : (finL (t.set p (c0, none)) fs d)[p]? = _ := finL_get (by rw [List.length_set]; exact hp)
      rw [eqN, finL_get (by rw [List.length_set]; exact hp)] at z1
      exact (Option.some.inj z1).symm
    -- told(None)[seat] < due
    refine nx_mk ⟨ft, ct, rfl, kt.1, kt.1, kt.2, a, t, fs, p, d, (c0, none), rfl, rfl, tb3, okn, hp, hf, d0, fun ln Hn sn nln hln => ?_⟩
    have en := e3.trans (Same.evn sn)
    have hTn := Same.tabs sn hT3
    have ktn := (Same.evn sn).knN kt
    refine ⟨_, rfl, ln, _, _, _, rfl, rfl, SqL.of hln, atI_nat (map_at (finL_get (by rw [List.length_set]; exact hp))), _, rfl, _, _, rfl, rfl, _, rfl, ?_⟩
    by_cases few : (Fin (t.set p (c0, none)) fs d).had p < due
    · rw [decide_eq_true few]
      refine iteT (q .non none Hn en hTn rfl ⟨fun e => ?_, fun m h0 h1 e => ?_⟩)
      · rw [gi] at e
        have := (had_at e hdue).2
        simp only at this
        omega
      · rw [gi] at e
        have h2 := (had_at e hdue).2
        have up := (enough_mono hpos hp fs d c0 h1).1
        simp only at h2
        omega
    rw [decide_eq_false few]
    refine iteF (next_mk ⟨hTn, fun f' c' H4 y1 y2 hT4 hf' hc' => ?_⟩)
    have e34 : EvN Hn H4 := ⟨y1, y2⟩
    have e4 : EvN H H4 := en.trans e34
    have kt4 := e34.knN ktn
    have tb4 := tb.evn e4
    refine ⟨0, 1000000000000000000, f', c', fun m => decide (due ≤ (Fin (t.set p (c0, some m)) fs d).had p), rfl, ⟨hf', hc'⟩, by decide, fun m H' Q' s' l0 l1 k => ?_, fun m m' l0 l1 l2 h => ?_, fun r H5 s5 r0 rG bad gd => ?_⟩
    · exact ⟨a, t, fs, p, d, (c0, some m), due, ft, ct, rfl, rfl, ⟨s' _ _ kt4.1, s' _ _ kt4.2⟩, tb4.same s', oke m l0 (by omega), hp, hf, d0, k⟩
    · have := of_decide_eq_true h
      have up := (enough_mono hpos hp fs d c0 l1).1
      exact decide_eq_true (by omega)
    have bad' : ∀ m, 0 ≤ m → m < r → ¬ -(Fin (t.set p (c0, some m)) fs d).had p ≤ -due := fun m h0 h1 => by
      have := of_decide_eq_false (bad m h0 h1)
      omega
    have hr' : -(Fin (t.set p (c0, some r)) fs d).had p ≤ -due := by
      rcases Int.lt_or_le r 1000000000000000000 with z | z
      · have := of_decide_eq_true (gd r (Int.le_refl _) z)
        omega
      · have : r = 1000000000000000000 := by omega
        rw [this]
        omega
    have S := D.stretch (F := fun e => finL (t.set p (c0, some e)) fs d) (h := fun e => -(Fin (t.set p (c0, some e)) fs d).had p) (s := ns) (due := -due) (G := 1000000000000000000) (fun e e' h0 h1 h2 => by
      have m := enough_mono hpos hp fs d c0 h1
      exact ⟨by have := m.1; omega, fun z => m.2 (by omega)⟩) (fun e h0 h1 z => by have := (had_at z hdue).2; omega) r0 rG bad' hr'
    have e45 := Same.evn s5
    have e5 := e4.trans e45
    have kt5 := e45.knN kt4
    have tb5 := tb.evn e5
    have hT5 := Same.tabs s5 hT4
    -- told(least)
    refine nx_mk ⟨ft, ct, rfl, kt5.1, _, rfl, kt5.1, kt5.2, a, t, fs, p, d, (c0, some r), rfl, rfl, tb5, oke r r0 rG, hp, hf, d0, fun l H6 s6 nl hl6 => ⟨_, rfl, ?_⟩⟩
    have e6 := e5.trans (Same.evn s6)
    have hT6 := Same.tabs s6 hT5
    have kt6 := (Same.evn s6).knN kt5
    refine ne_ints (SqL.of hl6) (e6.sql hw) ⟨_, rfl, ?_⟩
    by_cases eq : finL (t.set p (c0, some r)) fs d ≠ ns
    · rw [decide_eq_false eq]
      exact iteT (q .non none H6 e6 hT6 rfl ⟨by rw [gi]; show finL (t.set p (c0, none)) fs d ≠ ns; rw [eqN]; exact S.1 eq _ (by decide) (Int.le_refl _), fun m h0 h1 => by rw [gi]; exact S.1 eq m h0 h1⟩)
    have eq := Decidable.of_not_not eq
    rw [decide_eq_true eq]
    refine iteF ?_
    -- told(None)
    refine next_mk ⟨ft, ct, rfl, kt6.1, kt6.1, kt6.2, a, t, fs, p, d, (c0, none), rfl, rfl, tb.evn e6, okn, hp, hf, d0, fun l7 H7 s7 nl7 hl7 => ⟨_, rfl, ?_⟩⟩
    have e7 := e6.trans (Same.evn s7)
    have hT7 := Same.tabs s7 hT6
    have kt7 := (Same.evn s7).knN kt6
    refine eq_ints (SqL.of hl7) (e7.sql hw) ⟨_, rfl, ?_⟩
    by_cases eqG : finL (t.set p (c0, none)) fs d = ns
    · rw [decide_eq_true eqG]
      refine iteT ⟨_, rfl, by show 2 ≤ sizeLine; decide, fun r9 hr9 => ?_⟩
      have s9 := same_upd (o := .tup [.int r, .non]) hr9
      refine q (.ref r9) (some (r, none)) _ (e7.trans (Same.evn s9)) (Same.tabs s9 hT7) ⟨r9, rfl, SqT.of upd_same⟩ ⟨r0, rG, fun m h0 h1 => ?_, by rw [gi]; exact ⟨fun _ => eqG, fun _ => rfl⟩, fun h eh => by cases eh⟩
      rw [gi]
      exact (S.2.1 eq (eqN.symm.trans eqG) m h0 h1).trans ⟨fun z => ⟨z.1, fun h eh => by cases eh⟩, fun z => ⟨z.1, h1⟩⟩
    have eqG' : finL (t.set p (c0, some 1000000000000000000)) fs d ≠ ns := fun z => eqG (eqN.trans z)
    rw [decide_eq_false eqG]
    refine iteF (next_mk ⟨_, rfl, _, rfl, hT7, fun f2 c2 H8 z1 z2 hT8 hf2 hc2 => ?_⟩)
    have e78 : EvN H7 H8 := ⟨z1, z2⟩
    have e8 := e7.trans e78
    have kt8 := e78.knN kt7
    have tb8 := tb.evn e8
    refine ⟨r, 1000000000000000000, f2, c2, fun m => decide (due < (Fin (t.set p (c0, some m)) fs d).had p), rfl, ⟨hf2, hc2⟩, rG, fun m H' Q' s' l0 l1 k => ?_, fun m m' l0 l1 l2 h => ?_, fun r2 H9 s9 l1 l2 bad2 gd2 => ⟨_, _, rfl, rfl, by show 2 ≤ sizeLine; decide, fun r9 hr9 => ?_⟩⟩
    · exact ⟨a, t, fs, p, d, (c0, some m), due, ft, ct, rfl, rfl, ⟨s' _ _ kt8.1, s' _ _ kt8.2⟩, tb8.same s', oke m (by omega) (by omega), hp, hf, d0, k⟩
    · have := of_decide_eq_true h
      have up := (enough_mono hpos hp fs d c0 l1).1
      exact decide_eq_true (by omega)
    have s10 := same_upd (o := .tup [.int r, .int (r2 - 1)]) hr9
    obtain ⟨b1, b2, b3⟩ := S.2.2 eq eqG' r2 l1 l2 (fun m h0 h1 => by have := of_decide_eq_false (bad2 m h0 h1); omega) (fun m h0 h1 => by have := of_decide_eq_true (gd2 m h0 h1); omega)
    refine q (.ref r9) (some (r, some (r2 - 1))) _ ((e8.trans (Same.evn s9)).trans (Same.evn s10)) (Same.tabs s10 (Same.tabs s9 hT8)) ⟨r9, rfl, SqT.of upd_same⟩ ⟨r0, rG, fun m h0 h1 => ?_, by rw [gi]; exact ⟨fun z => (by cases z), fun z => absurd z eqG⟩, fun h eh => by cases eh; exact ⟨b1, b2⟩⟩
    rw [gi]
    exact (b3 m h0 h1).trans ⟨fun z => ⟨z.1, fun h eh => by cases eh; exact z.2⟩, fun z => ⟨z.1, z.2 _ rfl⟩⟩
end
end Lp
namespace Lp
open PySem PySem.Spec PyProof.Rows L2 LamX NdefX
def spLawT (K : PySem.W.Frag) (T : List NTab) : Sp := fun vs H Q _ => ∃ (a : Addr) (ns : List Int), vs = [.ref a] ∧ SqL K H a (ns.map V.int) ∧ ns.length ≤ 63 ∧ TabsN T H ∧ ∀ H', Q (.bl true) H'
/-- a constant ahead of other arguments -/
theorem argC {σ : L2.St} {H : Hp} {v : V} {t : TA} {k : List V → Hp → Prop} (h : t σ H fun xs H1 => k (v :: xs) H1) : tCons (tC v) t σ H k := h
theorem EvN.tabs_evw {H H' : Hp} (e : EvN H H') : Evw H H' := e.w
theorem scal_oo (o o' : Option Int) : scal (optV o) (optV o') = true := by
  cases o <;> cases o' <;> rfl
theorem optV_inj {o o' : Option Int} (h : optV o = optV o') : o = o' := by
  cases o <;> cases o' <;> cases h <;> rfl
end Lp
namespace Lp
open PySem PySem.Spec PyProof.Rows L2
/-- a statement that goes on in the end -/
theorem seqS {A C : TS} {D : Ends} {σ : L2.St} {H : Hp} (h : ∀ D' : Ends, (∀ H', Same H H' → D'.nx σ H') → A D' σ H) (q : ∀ H', Same H H' → C D σ H') : tSeq A C D σ H := h _ q
/-- «o is not None and d > o», which is false -/
theorem gt_opt {σ : L2.St} {H : Hp} {i j : Nat} {o : Option Int} {d : Int} {Q : Bool → Hp → Prop} (h7 : σ[j]? = some (some (optV o))) (h4 : σ[i]? = some (some (.int d))) (le : ∀ h, o = some h → d ≤ h) (q : Q false H) :
    tAnd (tTest (tOp (fun x y H Q => y = .non ∧ Q (.bl (!decide (x = .non))) H) (tVar j) (tC .non))) (tTest (tOp (rI0 fun i j => .bl (decide (j < i))) (tVar i) (tVar j))) σ H Q := by
  cases o with
  | none => exact ⟨_, h7, rfl, _, rfl, iteF q⟩
  | some h =>
    refine ⟨_, h7, rfl, _, rfl, iteT ⟨_, h4, _, h7, _, _, rfl, rfl, _, rfl, ?_⟩⟩
    rw [decide_eq_false (show ¬ h < d by have := le h rfl; omega)]
    exact q
end Lp
namespace Lp
open PySem PySem.Spec PyProof.Rows L2
/-- short + [enough] * int(enough is not None and enough < one) -/
theorem short_mk {H : Hp} {σ : L2.St} {sh : Addr} {rs : List Int} {o : Option Int} {m : Int} {Q : VK} (h11 : σ[11]? = some (some (.ref sh))) (h13 : σ[13]? = some (some (optV o))) (h9 : σ[9]? = some (some (.int m))) (hs : H sh = some (.lst (rs.map V.int))) (hl : rs.length ≤ 8)
    (q : ∀ (r : Addr) (H' : Hp) (us : List Int), Same H H' → H' r = some (.lst (us.map V.int)) → us.length ≤ rs.length + 1 → (us = [] ↔ rs = [] ∧ ∀ e, o = some e → m ≤ e) → Q (.ref r) H') :
    tOp rCat (tVar 11) (tOp rRep (tLst (tCons (tVar 13) tNil)) (tCB (fun xs H Q => (∃ i, xs = [V.int i] ∧ Q (V.int i) H) ∨ ∃ k, xs = [V.bl k] ∧ Q (V.int (if k = true then 1 else 0)) H)
      (tCons (tAndV (tOp (fun x y H Q => y = V.non ∧ Q (V.bl !decide (x = V.non)) H) (tVar 13) (tC V.non)) (tOp (rI0 fun i j => V.bl (decide (i < j))) (tVar 13) (tVar 9))) tNil))) σ H Q := by
  have zero : ∀ (x : V) (p : Addr), H p = none → (∀ e, o = some e → m ≤ e) → rRep (.ref p) (.int 0) (upd H p (.lst [x])) fun y H2 => rCat (.ref sh) y H2 Q := fun x p hp no => by
    have s1 := same_upd (o := .lst [x]) hp
    refine rep_list upd_same (Int.le_refl 0) (by decide) fun r H1 s2 hr => ?_
    have hr' : H1 r = some (.lst (([] : List Int).map V.int)) := hr
    refine cat_list (s2 _ _ (s1 _ _ hs)) hr' (by rw [List.length_map]; show _ + 0 ≤ 1000; omega) fun r2 H2 s3 hr2 => ?_
    refine q r2 H2 rs (Same.trans (Same.trans s1 s2) s3) (by rw [hr2, List.map_nil, List.append_nil]) (by omega) ⟨fun z => ⟨z, no⟩, fun z => z.1⟩
  cases o with
  | none => exact ⟨_, h11, _, h13, by show 1 ≤ sizeLine; decide, fun p hp => ⟨_, h13, rfl, _, rfl, iteF (.inr ⟨_, rfl, zero _ p hp (fun e he => by cases he)⟩)⟩⟩
  | some e =>
    refine ⟨_, h11, _, h13, by show 1 ≤ sizeLine; decide, fun p hp => ⟨_, h13, rfl, _, rfl, iteT ⟨_, h13, _, h9, _, _, rfl, rfl, .inr ⟨_, rfl, ?_⟩⟩⟩⟩
    by_cases lt : e < m
    · rw [decide_eq_true lt]
      have s1 := same_upd (o := .lst [.int e]) hp
      refine rep_list upd_same (by decide) (by decide) fun r H1 s2 hr => ?_
      have hr' : H1 r = some (.lst (([e] : List Int).map V.int)) := hr
      refine cat_list (s2 _ _ (s1 _ _ hs)) hr' (by rw [List.length_map]; show _ + 1 ≤ 1000; omega) fun r2 H2 s3 hr2 => ?_
      refine q r2 H2 (rs ++ [e]) (Same.trans (Same.trans s1 s2) s3) (by rw [hr2, List.map_append]) (by rw [List.length_append]; exact Nat.le_refl _) ⟨fun z => ?_, fun z => ?_⟩
      · exact absurd z (by simp)
      · have := z.2 e rfl
        omega
    · rw [decide_eq_false lt]
      exact zero _ p hp fun e' he => by cases he; omega
end Lp
namespace Lp
open PySem PySem.Spec PyProof.Rows L2
theorem seqP {A C : TS} {D : Ends} {σ : L2.St} {H : Hp} (R : L2.St → Hp → Prop) (h : ∀ D' : Ends, (∀ σ' H', R σ' H' → D'.nx σ' H') → A D' σ H) (q : ∀ σ' H', R σ' H' → C D σ' H') : tSeq A C D σ H := h _ q
/-- «if T: ..» where T is false, whatever it lays -/
theorem guardR {T : TT} {A B : TS} {D : Ends} {σ : L2.St} {H : Hp} (R : Hp → Prop) (hx : ∀ Q' : Bool → Hp → Prop, (∀ H', R H' → Q' false H') → T σ H Q') (hq : ∀ H', R H' → B D σ H') : tIfS T A B D σ H :=
  hx _ fun H' s => iteF (hq H' s)
theorem guardRS {T : TT} {A B C : TS} {D : Ends} {σ : L2.St} {H : Hp} (R : Hp → Prop) (hx : ∀ Q' : Bool → Hp → Prop, (∀ H', R H' → Q' false H') → T σ H Q') (hq : ∀ H', R H' → B { D with nx := C D } σ H') : tSeq (tIfS T A B) C D σ H :=
  hx _ fun H' s => iteF (hq H' s)
end Lp
namespace Lp
open PySem PySem.Spec PyProof.Rows L2
section
variable {P : Program} {w : World} {K : PySem.W.Frag} {mg : Str → Option Value} {base : Heap}
/-- _law_with and with_guest -/
def spWith (K : PySem.W.Frag) : Sp := fun vs H Q _ => ∃ (a : Addr) (t : List Guest) (p : Nat) (u : Addr) (g : Guest), vs = [.ref a, .int (p : Int), .ref u] ∧ TableAt K H a t ∧ t.length ≤ 8 ∧ p < t.length ∧ SqT K H u [.int g.1, optV g.2] ∧
  ∀ (a' : Addr) (H' : Hp), Same H H' → TableAt K H' a' (t.set p g) → Q (.ref a') H'
theorem take_drop_set {α : Type} (l : List α) {p : Nat} (hp : p < l.length) (x : α) : l.take p ++ [x] ++ l.drop (p + 1) = l.set p x := by
  rw [List.set_eq_take_append_cons_drop, if_pos hp, List.append_assoc]
  rfl
theorem sc_law_with : FnScope ["table", "seat", "guest"] ["table", "seat", "guest"] (defScope s_law_with) := ⟨rfl, rfl, rfl, by decide +kernel, rfl, by decide +kernel, by decide +kernel⟩
theorem ok_lwith {f : Addr} {fd : FuncData} (F : L2.Fun K "_law_with" "_law_with" s_law_with f fd) : FnOk P w K mg base L2.CX0 1 f fd ["table", "seat", "guest"] (spWith K) := by
  refine F.ok sc_law_with (fun vs H Q E h => ?_) (fun cdv A outer s H vs Q E hr h => ?_)
  · obtain ⟨a, t, p, u, g, rfl, _⟩ := h
    rfl
  · obtain ⟨a, t, p, u, g, rfl, tb, n8, hp, hu, k⟩ := h
    obtain ⟨xs, hx, hl, hg⟩ := tb.open
    refine ⟨_, (pss_one (ps_ret (pe_op op_catA (pe_op op_catA (pe_slice sl_tup (pv 0) po_none (po_some (pv 1))) (pe_tup (pa_cons (pv 2) pa_nil))) (pe_slice sl_tup (pv 0) (po_some (pe_op op_add (pv 1) pe_int)) po_none)))), ?_⟩
    refine ⟨_, rfl, _, rfl, _, rfl, a, xs, rfl, hx, ?_, fun r1 hr1 => ?_⟩
    · rw [HT.sIx_none, HT.sIx_nat]
      omega
    rw [cut_take]
    have s1 := same_upd (o := .tup (xs.take p)) hr1
    refine ⟨_, rfl, by show 1 ≤ sizeLine; decide, fun r2 hr2 => ?_⟩
    have s2 := same_upd (o := .tup [.ref u]) hr2
    have s12 := Same.trans s1 s2
    refine cat_any (SqT.of (s2 _ _ upd_same)) (SqT.of upd_same) (by rw [List.length_take]; show _ + 1 ≤ 1000; omega) fun r3 H3 s3 h3 => ?_
    have s13 := Same.trans s12 s3
    refine ⟨_, rfl, _, rfl, _, _, rfl, rfl, _, rfl, a, xs, rfl, Same.sqt s13 hx, ?_, fun r4 hr4 => ?_⟩
    · rw [HT.sIx_none]
      show ¬ (HT.sIx xs.length 0 (some ((p + 1 : Nat) : Int)) = 0 ∧ _)
      rw [HT.sIx_nat]
      omega
    have e4 : cutV xs (some ((p : Int) + 1)) none = xs.drop (p + 1) := cut_drop xs (p + 1)
    have s4 := same_upd (o := .tup (cutV xs (some ((p : Int) + 1)) none)) hr4
    refine cat_any (Same.sqt s4 h3) (SqT.of upd_same) ?_ fun r5 H5 s5 h5 => ?_
    · rw [e4, List.length_append, List.length_take, List.length_drop]
      show _ + 1 + _ ≤ _
      omega
    have s15 := Same.trans (Same.trans s13 s4) s5
    rw [e4, take_drop_set xs (by omega)] at h5
    refine k r5 H5 s15 (.ofRefs h5 (by rw [List.length_set, List.length_set, hl]) fun i g' hi => ?_)
    by_cases e : i = p
    · subst e
      rw [List.getElem?_set_self hp] at hi
      cases hi
      exact ⟨u, by rw [List.getElem?_set_self (by omega)], Same.sqt s15 hu⟩
    · rw [List.getElem?_set_ne (Ne.symm e)] at hi
      obtain ⟨q, h1, h2⟩ := hg i g' hi
      exact ⟨q, by rw [List.getElem?_set_ne (Ne.symm e)]; exact h1, Same.sqt s15 h2⟩
end
end Lp
namespace Lp
open PySem PySem.Spec PyProof.Rows L2 LamX NdefX
/-- a stretch as data -/
def endD : Option (Int × Option Int) → PyData
  | none => .none
  | some (lo, hi) => .tuple [.int lo, optD hi]
theorem opt_flatD (o : Option Int) : flatD (optD o) = true := by cases o <;> rfl
theorem opt_dp {K : PySem.W.Frag} {H : Hp} (o : Option Int) : Dp K H (optV o) (optD o) := by
  cases o with
  | none => exact .non
  | some m => exact .int m
theorem end_dp {K : PySem.W.Frag} {H : Hp} {o : Option (Int × Option Int)} {v : V} (h : EnoughV K H o v) : Dp K H v (endD o) ∧ SeqAt.shaped (endD o) = true := by
  cases o with
  | none =>
    obtain rfl : v = .non := h
    exact ⟨.non, shaped_flat rfl⟩
  | some x =>
    obtain ⟨lo, hi⟩ := x
    obtain ⟨q, rfl, hq⟩ := h
    refine ⟨.tup hq (.cons (.int lo) (.cons (opt_dp hi) .nil)), shaped_tup ?_⟩
    show (flatD (.int lo) && (flatD (optD hi) && true)) = true
    rw [opt_flatD]
    rfl
theorem end_eqv (o : Option (Int × Option Int)) : PyData.eqv (endD o) (endD o) = true := by
  cases o with
  | none => simp [endD, PyData.eqv]
  | some x =>
    obtain ⟨lo, hi⟩ := x
    cases hi <;> simp [endD, optD, PyData.eqv, PyData.eqvAll]
theorem end_ne {K : PySem.W.Frag} {H : Hp} {o : Option (Int × Option Int)} {v u : V} {Q : VK} (h1 : EnoughV K H o v) (h2 : EnoughV K H o u) (q : Q (.bl false) H) : rNeD K v u H Q :=
  ⟨_, _, (end_dp h1).1, (end_dp h2).1, (end_dp h1).2, (end_dp h2).2, by rw [end_eqv]; exact q⟩
theorem EnoughV.evn {K : PySem.W.Frag} {H H' : Hp} {o : Option (Int × Option Int)} {v : V} (h : EnoughV K H o v) (e : EvN H H') : EnoughV K H' o v := by
  cases o with
  | none => exact h
  | some x =>
    obtain ⟨lo, hi⟩ := x
    obtain ⟨q, e1, hq⟩ := h
    exact ⟨q, e1, e.sqt hq⟩
theorem CourtV.end {K : PySem.W.Frag} {H : Hp} {o : Option (Int × Int)} {v : V} (h : CourtV K H o v) : EnoughV K H (o.map fun x => (x.1, some x.2)) v := by
  cases o with
  | none => exact h
  | some x => exact h
theorem at_last {xs : List V} {x : V} (h : xs.getLast? = some x) : atI xs (-1) = some x := by
  rw [List.getLast?_eq_getElem?] at h
  have hl := (List.getElem?_eq_some_iff.mp h).1
  unfold atI ixN
  rw [if_neg (by decide), if_pos (by omega)]
  show xs[((-1 : Int) + (xs.length : Int)).toNat]? = some x
  rw [show ((-1 : Int) + (xs.length : Int)).toNat = xs.length - 1 by omega]
  exact h
def endsO (ys : List Int) (last : Int) : Option (Int × Option Int) := match ys.head?, ys.getLast? with
  | some a, some b => some (a, if b = last then none else some b)
  | _, _ => none
section
variable {P : Program} {w : World} {K : PySem.W.Frag} {mg : Str → Option Value} {base : Heap}
def spEnds (K : PySem.W.Frag) : Sp := fun vs H Q _ => ∃ (a : Addr) (ys : List Int) (last : Int), vs = [.ref a, .int last] ∧ SqL K H a (ys.map V.int) ∧ ∀ (v : V) (H' : Hp), Same H H' → EnoughV K H' (endsO ys last) v → Q v H'
theorem sc_law_ends : FnScope ["good", "last"] ["good", "last"] (defScope s_law_ends) := ⟨rfl, rfl, rfl, by decide +kernel, rfl, by decide +kernel, by decide +kernel⟩
theorem ok_ends {f : Addr} {fd : FuncData} (F : L2.Fun K "_law_ends" "_law_ends" s_law_ends f fd) : FnOk P w K mg base L2.CX0 1 f fd ["good", "last"] (spEnds K) := by
  refine F.ok sc_law_ends (fun vs H Q E h => ?_) (fun cdv A outer s H vs Q E hr h => ?_)
  · obtain ⟨_, _, _, rfl, _⟩ := h
    rfl
  · obtain ⟨a, ys, last, rfl, hs, k⟩ := h
    refine ⟨_, (pss_cons (ps_if (pt_cmpR (op_eqD hr.units) (pv 0) (pe_lst pa_nil) (nomark _))
      (pss_one (ps_ret pe_non))
      pss_nil)
      (pss_one (ps_ret (pe_tup (pa_cons (pe_ix ix_list (pv 0) pe_int (fun _ _ => rfl)) (pa_cons (pe_ifExp (pt_cmpR op_eq (pe_ix ix_list (pv 0) (pe_un un_neg pe_int) (fun _ _ => rfl)) (pv 1) (nomark _)) pe_non (pe_ix ix_list (pv 0) (pe_un un_neg pe_int) (fun _ _ => rfl))) pa_nil)))))), ?_⟩
    refine ⟨_, rfl, by show 0 ≤ sizeLine; decide, fun p hp => ?_⟩
    have s1 := same_upd (o := .lst (([] : List Int).map V.int)) hp
    have hs1 := (Same.evn s1).sql hs
    refine eq_ints (ms := []) hs1 (SqL.of upd_same) ⟨_, rfl, ?_⟩
    cases ys with
    | nil => exact iteT (k .non _ s1 rfl)
    | cons y ys =>
      rw [decide_eq_false (show ¬ y :: ys = [] by simp)]
      obtain ⟨z, hz⟩ : ∃ z, (y :: ys).getLast? = some z := ⟨_, List.getLast?_eq_some_getLast (by simp)⟩
      have hz' : ((y :: ys).map V.int).getLast? = some (.int z) := by rw [List.getLast?_map, hz]; rfl
      have eo : endsO (y :: ys) last = some (y, if z = last then none else some z) := by
        unfold endsO
        rw [hz]
        rfl
      refine iteF ⟨_, rfl, a, _, _, _, rfl, rfl, hs1, at_of (j := 0) rfl rfl, ?_⟩
      refine ⟨_, rfl, _, rfl, a, _, _, _, rfl, rfl, hs1, at_last hz', _, rfl, rfl, _, rfl, ?_⟩
      by_cases e : z = last
      · rw [decide_eq_true (show V.int z = V.int last by rw [e])]
        refine iteT (c_mk ⟨by show 2 ≤ sizeLine; decide, fun r hr => ?_⟩)
        refine k (.ref r) _ (Same.trans s1 (same_upd hr)) ?_
        rw [eo, if_pos e]
        exact ⟨r, rfl, SqT.of upd_same⟩
      · rw [decide_eq_false (show ¬ V.int z = V.int last from fun q => e (V.int.inj q))]
        refine iteF ⟨_, rfl, _, rfl, a, _, _, _, rfl, rfl, hs1, at_last hz', by show 2 ≤ sizeLine; decide, fun r hr => ?_⟩
        refine k (.ref r) _ (Same.trans s1 (same_upd hr)) ?_
        rw [eo, if_neg e]
        exact ⟨r, rfl, SqT.of upd_same⟩
end
end Lp
namespace Lp
open PySem PySem.Spec PyProof.Rows L2
/-- the numbers below i for which P is so, in order -/
structure Goods (P : Int → Prop) (i : Nat) (ys : List Int) : Prop where
  len : ys.length ≤ i
  sub : ∀ y ∈ ys, 0 ≤ y ∧ y < (i : Int) ∧ P y
  all : ∀ m : Int, 0 ≤ m → m < (i : Int) → P m → m ∈ ys
  ord : ys.Pairwise (· < ·)
theorem Goods.nil {P : Int → Prop} : Goods P 0 [] := ⟨Nat.le_refl _, fun y h => absurd h List.not_mem_nil, fun m h0 h1 _ => by omega, List.Pairwise.nil⟩
theorem Goods.yes {P : Int → Prop} {i : Nat} {ys : List Int} (g : Goods P i ys) (h : P (i : Int)) : Goods P (i + 1) (ys ++ [(i : Int)]) := by
  refine ⟨by rw [List.length_append]; have := g.len; show _ + 1 ≤ _; omega, fun y hy => ?_, fun m h0 h1 hm => ?_, ?_⟩
  · rcases List.mem_append.mp hy with z | z
    · have := g.sub y z
      exact ⟨this.1, by omega, this.2.2⟩
    · have e : y = (i : Int) := by simpa using z
      subst e
      exact ⟨by omega, by omega, h⟩
  · by_cases e : m = (i : Int)
    · subst e
      exact List.mem_append_right _ List.mem_cons_self
    · exact List.mem_append_left _ (g.all m h0 (by omega) hm)
  · refine List.pairwise_append.mpr ⟨g.ord, List.pairwise_singleton _ _, fun a ha b hb => ?_⟩
    have e : b = (i : Int) := by simpa using hb
    have := (g.sub a ha).2.1
    omega
theorem Goods.no {P : Int → Prop} {i : Nat} {ys : List Int} (g : Goods P i ys) (h : ¬ P (i : Int)) : Goods P (i + 1) ys :=
  ⟨by have := g.len; omega, fun y hy => by have := g.sub y hy; exact ⟨this.1, by omega, this.2.2⟩, fun m h0 h1 hm => by
    by_cases e : m = (i : Int)
    · subst e; exact absurd hm h
    · exact g.all m h0 (by omega) hm, g.ord⟩
theorem Goods.head {P : Int → Prop} {i : Nat} {ys : List Int} (g : Goods P i ys) {a : Int} (h : ys.head? = some a) : a ∈ ys ∧ ∀ y ∈ ys, a ≤ y := by
  cases ys with
  | nil => cases h
  | cons x ys =>
    cases h
    refine ⟨List.mem_cons_self, fun y hy => ?_⟩
    rcases List.mem_cons.mp hy with z | z
    · omega
    · have := (List.pairwise_cons.mp g.ord).1 y z
      omega
theorem Goods.last {P : Int → Prop} {i : Nat} {ys : List Int} (g : Goods P i ys) {b : Int} (h : ys.getLast? = some b) : b ∈ ys ∧ ∀ y ∈ ys, y ≤ b := by
  have mem := List.mem_of_getLast? h
  refine ⟨mem, fun y hy => ?_⟩
  have ne : ys ≠ [] := List.ne_nil_of_mem mem
  have e := List.dropLast_concat_getLast ne
  have eb : ys.getLast ne = b := by
    rw [List.getLast?_eq_some_getLast ne] at h
    exact Option.some.inj h
  rw [eb] at e
  have o := g.ord
  rw [← e] at o hy
  rcases List.mem_append.mp hy with z | z
  · have := (List.pairwise_append.mp o).2.2 y z b List.mem_cons_self
    omega
  · have : y = b := by simpa using z
    omega
/-- a stretch among the first forty -/
theorem Goods.stretch {P : Int → Prop} {ys : List Int} (g : Goods P 40 ys) {lo hi : Int} (h : ∀ m, 0 ≤ m → m < 40 → (P m ↔ lo ≤ m ∧ m ≤ hi)) (lo0 : 0 ≤ lo) (lo39 : lo ≤ 39) (le : lo ≤ hi) : ys.head? = some lo ∧ ys.getLast? = some (if hi < 39 then hi else 39) := by
  have mlo : lo ∈ ys := g.all lo lo0 (by omega) ((h lo lo0 (by omega)).mpr ⟨Int.le_refl _, le⟩)
  have hb : ∃ e, e = (if hi < 39 then hi else 39) ∧ lo ≤ e ∧ e ≤ hi ∧ e ≤ 39 ∧ (e = hi ∨ e = 39) := ⟨_, rfl, by split <;> omega, by split <;> omega, by split <;> omega, by split <;> omega⟩
  obtain ⟨e, he, e1, e2, e3, e4⟩ := hb
  have me : e ∈ ys := g.all e (by omega) (by omega) ((h e (by omega) (by omega)).mpr ⟨e1, e2⟩)
  rw [← he]
  have ne : ys ≠ [] := List.ne_nil_of_mem mlo
  obtain ⟨a, ha⟩ : ∃ a, ys.head? = some a := by
    cases ys with
    | nil => exact absurd rfl ne
    | cons x _ => exact ⟨x, rfl⟩
  have hl := List.getLast?_eq_some_getLast ne
  obtain ⟨a1, a2⟩ := g.head ha
  obtain ⟨b1, b2⟩ := g.last hl
  have sa := g.sub a a1
  have sb := g.sub _ b1
  have pa := (h a sa.1 sa.2.1).mp sa.2.2
  have pb := (h _ sb.1 sb.2.1).mp sb.2.2
  have := a2 lo mlo
  have := b2 e me
  refine ⟨by rw [ha]; congr 1; omega, by rw [hl]; congr 1; omega⟩
theorem Goods.empty {P : Int → Prop} {ys : List Int} (g : Goods P 40 ys) (h : ∀ m, 0 ≤ m → m < 40 → ¬ P m) : ys = [] := by
  cases ys with
  | nil => rfl
  | cons y ys =>
    have := g.sub y List.mem_cons_self
    exact absurd this.2.2 (h y this.1 this.2.1)
/-- where nothing was tried beyond, the greatest is put in -/
def fixO : Option (Int × Option Int) → Option (Int × Option Int)
  | some (lo, none) => some (lo, some 1000000000000000000)
  | o => o
theorem court_match {t : List Guest} (hn : 0 < t.length) {f : Nat} {d : Int} (d30 : d ≤ 30) {p : Nat} (hp : p < t.length) {ss ys : List Int} {o : Option (Int × Int)} (h : CourtO t f d p ss o) (g : Goods (fun c => finL (t.set p (c, (D.gs t p).2)) f d = ss) 40 ys) :
    fixO (endsO ys 39) = o.map fun x => (x.1, some x.2) := by
  have flat : ∀ c c', d ≤ c → c ≤ c' → finL (t.set p (c', (D.gs t p).2)) f d = finL (t.set p (c, (D.gs t p).2)) f d := fun c c' h1 h2 => by
    refine (court_mono hn hp f d _ h2).2 ?_
    have z1 : (Fin (t.set p (c', (D.gs t p).2)) f d).had p = 0 := D.polite_none (by rw [gs_set hp]; show d ≤ c'; omega) _
    have z2 : (Fin (t.set p (c, (D.gs t p).2)) f d).had p = 0 := D.polite_none (by rw [gs_set hp]; exact h1) _
    rw [z1, z2]
  cases o with
  | none =>
    have e := g.empty fun m h0 h1 z => h m h0 (by omega) z
    subst e
    rfl
  | some x =>
    obtain ⟨lo, hi⟩ := x
    obtain ⟨lo0, lohi, hiG, iff⟩ := h
    have at39 : 39 < lo → False := fun z => by
      have e1 := (iff lo lo0 (by omega)).mpr ⟨Int.le_refl _, lohi⟩
      have e2 := flat 39 lo (by omega) (by omega)
      have := (iff 39 (by omega) (by omega)).mp (e2.symm.trans e1)
      omega
    have lo39 : lo ≤ 39 := Int.not_lt.mp at39
    obtain ⟨h1, h2⟩ := g.stretch (lo := lo) (hi := hi) (fun m a b => iff m a (by omega)) lo0 lo39 lohi
    unfold endsO
    rw [h1, h2]
    by_cases z : hi < 39
    · rw [if_pos z]
      simp only
      rw [if_neg (show ¬ hi = 39 by omega)]
      rfl
    · rw [if_neg z]
      have e1 := (iff 39 (by omega) (by omega)).mpr ⟨lo39, by omega⟩
      have e2 := flat 39 1000000000000000000 (by omega) (by omega)
      have := (iff 1000000000000000000 (by omega) (Int.le_refl _)).mp (e2.trans e1)
      have eh : hi = 1000000000000000000 := by omega
      rw [eh]
      rfl
theorem enough_match {t : List Guest} {f : Nat} {d : Int} (d30 : d ≤ 30) {p : Nat} (hp : p < t.length) (c0 : 0 ≤ (D.gs t p).1) {ss ys : List Int} {o : Option (Int × Option Int)} (h : EnoughO t f d p ss o) (g : Goods (fun e => finL (t.set p ((D.gs t p).1, some e)) f d = ss) 40 ys) : endsO ys 39 = o := by
  have flat : ∀ e, d ≤ e → finL (t.set p ((D.gs t p).1, some e)) f d = finL (t.set p ((D.gs t p).1, none)) f d := fun e h1 => (enough_none hp f c0 h1).symm
  cases o with
  | none =>
    have e := g.empty fun m h0 h1 z => h.2 m h0 (by omega) z
    subst e
    rfl
  | some x =>
    obtain ⟨lo, hi⟩ := x
    obtain ⟨lo0, loG, iff, ifn, hh⟩ := h
    have inlo := (iff lo lo0 loG).mpr ⟨Int.le_refl _, fun h eh => (hh h eh).1⟩
    have lo39 : lo ≤ 39 := Int.not_lt.mp fun z => by
      have e2 := (flat 39 (by omega)).trans (flat lo (by omega)).symm
      have := (iff 39 (by omega) (by omega)).mp (e2.trans inlo)
      omega
    cases hi with
    | none =>
      obtain ⟨h1, h2⟩ := g.stretch (lo := lo) (hi := 1000000000000000000) (fun m a b => (iff m a (by omega)).trans ⟨fun z => ⟨z.1, by omega⟩, fun z => ⟨z.1, fun h eh => by cases eh⟩⟩) lo0 lo39 loG
      unfold endsO
      rw [h1, h2]
      rfl
    | some hi =>
      obtain ⟨b1, b2⟩ := hh hi rfl
      have hi39 : hi < 39 := Int.not_le.mp fun z => by
        have e1 := (iff 39 (by omega) (by omega)).mpr ⟨lo39, fun h eh => by cases eh; exact z⟩
        have := ifn.mpr ((flat 39 (by omega)).symm.trans e1)
        cases this
      obtain ⟨h1, h2⟩ := g.stretch (lo := lo) (hi := hi) (fun m a b => (iff m a (by omega)).trans ⟨fun z => ⟨z.1, z.2 _ rfl⟩, fun z => ⟨z.1, fun h eh => by cases eh; exact z.2⟩⟩) lo0 lo39 b1
      unfold endsO
      rw [h1, h2, if_pos hi39]
      simp only
      rw [if_neg (show ¬ hi = 39 by omega)]
theorem court_unique {t : List Guest} {f : Nat} {d : Int} {p : Nat} {ss : List Int} {o o' : Option (Int × Int)} (h : CourtO t f d p ss o) (h' : CourtO t f d p ss o') : o = o' := by
  have one : ∀ {lo hi : Int}, CourtO t f d p ss (some (lo, hi)) → finL (t.set p (lo, (D.gs t p).2)) f d = ss ∧ finL (t.set p (hi, (D.gs t p).2)) f d = ss := fun {lo hi} ⟨a, b, c, i⟩ => ⟨(i lo a (by omega)).mpr ⟨Int.le_refl _, b⟩, (i hi (by omega) c).mpr ⟨b, Int.le_refl _⟩⟩
  cases o with
  | none =>
    cases o' with
    | none => rfl
    | some x => exact absurd (one h').1 (h _ h'.1 (by have := h'.2.1; have := h'.2.2.1; omega))
  | some x =>
    cases o' with
    | none => exact absurd (one h).1 (h' _ h.1 (by have := h.2.1; have := h.2.2.1; omega))
    | some y =>
      obtain ⟨lo, hi⟩ := x
      obtain ⟨lo', hi'⟩ := y
      obtain ⟨a1, a2⟩ := one h
      obtain ⟨b1, b2⟩ := one h'
      obtain ⟨l0, lh, hG, i⟩ := h
      obtain ⟨l0', lh', hG', i'⟩ := h'
      have c1 := (i' lo l0 (by omega)).mp a1
      have c2 := (i' hi (by omega) hG).mp a2
      have c3 := (i lo' l0' (by omega)).mp b1
      have c4 := (i hi' (by omega) hG').mp b2
      have e1 : lo = lo' := by omega
      have e2 : hi = hi' := by omega
      rw [e1, e2]
end Lp
namespace Lp
open PySem PySem.Spec PyProof.Rows L2
/-- the slots written out -/
theorem renorm8 {C : TS} {D : Ends} {σ σ' : L2.St} {H : Hp} (h : σ = σ') (q : C D σ' H) : C D σ H := h ▸ q
/-- two lists of ints, one behind the other -/
theorem cat_ints {H : Hp} {Q : VK} {a b : Addr} {xs ys : List Int} (h1 : H a = some (.lst (xs.map V.int))) (h2 : H b = some (.lst (ys.map V.int))) (hl : xs.length + ys.length ≤ 1000) (q : ∀ (r : Addr) (H' : Hp), H r = none → Same H H' → H' r = some (.lst ((xs ++ ys).map V.int)) → Q (.ref r) H') : rCat (.ref a) (.ref b) H Q :=
  ⟨a, b, _, _, rfl, rfl, h1, h2, Nat.le_of_lt (small1000 (by rw [List.length_map, List.length_map]; exact hl)), fun p hp => q p _ hp (same_upd hp) (by rw [upd_same, List.map_append])⟩
/-- a list of shares that may be asked for -/
def ShareL (H : Hp) (n : Nat) (x : V) : Prop := ∃ (l : Addr) (ss : List Int), x = .ref l ∧ H l = some (.lst (ss.map V.int)) ∧ ss.length = n ∧ ∀ m ∈ ss, 0 ≤ m ∧ m ≤ 1000000000000000000
theorem ShareL.evw {H H' : Hp} {n : Nat} {x : V} (h : ShareL H n x) (e : Evw H H') : ShareL H' n x := by
  obtain ⟨l, ss, h1, h2, h3, h4⟩ := h
  exact ⟨l, ss, h1, e.intsH h2, h3, h4⟩
end Lp
namespace Lp
open PySem PySem.Spec PyProof.Rows L2 LamX NdefX
section
variable {P : Program} {w : World} {K : PySem.W.Frag} {mg : Str → Option Value} {base : Heap}
theorem sc_law : FnScope ["script", "bag", "table", "dish", "begin", "seat", "other", "own", "at", "bent", "some", "good", "fits_so", "number", "due"] ["script"] (defScope s_law) := ⟨rfl, rfl, rfl, by decide +kernel, rfl, by decide +kernel, by decide +kernel⟩
theorem ok_law {T : List NTab} {f : Addr} {fd : FuncData} (F : L2.Fun K "law" "law" s_law f fd) (B : Bls mg) (c_law_bags : Cal P w K mg base 3 "_law_bags" (spBags K)) (c_law_take : Cal P w K mg base 1 "_law_take" (spTake K)) (c_law_table : Cal P w K mg base 3 "_law_table" (spLawTable K)) (c_law_rest : Cal P w K mg base 1 "_law_rest" (spLawRest K)) (c_law_with : Cal P w K mg base 1 "_law_with" (spWith K))
    (c_law_ends : Cal P w K mg base 1 "_law_ends" (spEnds K)) (k_courtesies : CalK P w K mg base 8 4 "courtesies" (spCourt K T)) (k_enoughs : CalK P w K mg base 8 4 "enoughs" (spEnough K T)) : FnOk P w K mg base L2.CX0 9 f fd ["script"] (spLawT K T) := by
  refine F.ok sc_law (fun vs H Q E h => ?_) (fun cdv A outer s H vs Q E hr h => ?_)
  · obtain ⟨a, ns, rfl, _⟩ := h
    rfl
  · obtain ⟨a, ns, rfl, hs, hl, hT, q⟩ := h
    refine ⟨_, (pss_cons (ps_for PassesOwn.never rfl (pi_list (pe_g c_law_bags hr (pa_cons (pv 0) (pa_cons pe_int pa_nil)))) (pg_name (i := 1) sc_law.nd rfl (Or.inl rfl))
      (pss_cons (ps_par (i := 2) (j := 3) (by rfl) sc_law.nd rfl rfl (by decide) rfl rfl (pa_cons (pe_g c_law_table hr (pa_cons (pv 1) (pa_cons pe_int (pa_cons pe_int pa_nil)))) (pa_cons (pe_g c_law_take hr (pa_cons (pv 1) (pa_cons pe_int pa_nil))) pa_nil)) (by rfl))
      (pss_cons (ps_par (i := 4) (j := 5) (by rfl) sc_law.nd rfl rfl (by decide) rfl rfl (pa_cons (pe_g c_law_take hr (pa_cons (pv 1) (pa_cons (pe_len B (pv 2)) pa_nil))) (pa_cons (pe_g c_law_take hr (pa_cons (pv 1) (pa_cons (pe_len B (pv 2)) pa_nil))) pa_nil)) (by rfl))
      (pss_cons (ps_set (i := 6) sc_law.nd rfl (Or.inl rfl) (pe_tup (pa_cons (pe_g c_law_take hr (pa_cons (pv 1) (pa_cons pe_int pa_nil))) (pa_cons (pe_ix ix_list (pe_lst (pa_cons pe_non (pa_cons (pe_g c_law_take hr (pa_cons (pv 1) (pa_cons pe_int pa_nil))) pa_nil))) (pe_g c_law_take hr (pa_cons (pv 1) (pa_cons pe_int pa_nil))) (fun _ _ => rfl)) pa_nil))))
      (pss_cons (ps_set (i := 7) sc_law.nd rfl (Or.inl rfl) (pe_ix ix_tup (pe_g c_law_rest hr (pa_cons (pv 2) (pa_cons (pv 3) (pa_cons (pv 4) pa_nil)))) pe_int (fun _ _ => rfl)))
      (pss_cons (ps_set (i := 8) sc_law.nd rfl (Or.inl rfl) (pe_g c_law_take hr (pa_cons (pv 1) (pa_cons (pe_len B (pv 7)) pa_nil))))
      (pss_cons (ps_set (i := 9) sc_law.nd rfl (Or.inl rfl) (pe_op op_cat (pe_op op_cat (pe_slice sl_list (pv 7) po_none (po_some (pv 8))) (pe_lst (pa_cons (pe_callB (call_max2 rfl) (by rfl) B.max (by decide +kernel) (pa_cons pe_int (pa_cons (pe_op op_add (pe_ix ix_list (pv 7) (pv 8) (fun _ _ => rfl)) (pe_ix ix_list (pe_lst (pa_cons pe_int (pa_cons (pe_un un_neg pe_int) pa_nil))) (pe_g c_law_take hr (pa_cons (pv 1) (pa_cons pe_int pa_nil))) (fun _ _ => rfl))) pa_nil))) pa_nil))) (pe_slice sl_list (pv 7) (po_some (pe_op op_add (pv 8) pe_int)) po_none)))
      (pss_cons (ps_for PassesOwn.never rfl (pi_tup (pe_tup (pa_cons (pv 7) (pa_cons (pe_ix ix_tup (pe_g c_law_rest hr (pa_cons (pe_g c_law_with hr (pa_cons (pv 2) (pa_cons (pv 5) (pa_cons (pv 6) pa_nil)))) (pa_cons (pv 3) (pa_cons (pv 4) pa_nil)))) pe_int (fun _ _ => rfl)) (pa_cons (pv 9) pa_nil))))) (pg_name (i := 10) sc_law.nd rfl (Or.inl rfl))
      (pss_cons (ps_par (i := 11) (j := 12) (by rfl) sc_law.nd rfl rfl (by decide) rfl rfl (pa_cons (pe_lst pa_nil) (pa_cons (pe_lst pa_nil) pa_nil)) (by rfl))
      (pss_cons (ps_for PassesOwn.never rfl (pi_range1 (by rfl) B.range (pa_cons pe_int pa_nil)) (pg_name (i := 13) sc_law.nd rfl (Or.inl rfl))
      (pss_cons (ps_if (pt_cmpR (op_eqD hr.units) (pe_ix ix_tup (pe_g c_law_rest hr (pa_cons (pe_g c_law_with hr (pa_cons (pv 2) (pa_cons (pv 5) (pa_cons (pe_tup (pa_cons (pv 13) (pa_cons (pe_ix ix_tup (pe_ix ix_tup (pv 2) (pv 5) (fun _ _ => rfl)) pe_int (fun _ _ => rfl)) pa_nil))) pa_nil)))) (pa_cons (pv 3) (pa_cons (pv 4) pa_nil)))) pe_int (fun _ _ => rfl)) (pv 10) (nomark _))
      (pss_one (ps_expr (pe_bm PySem.F.plainAttrs_list PySem.F.slot_list_append PySem.F.type_list_append mt_append (pv 11) (pa_cons (pv 13) pa_nil))))
      pss_nil)
      (pss_one (ps_if (pt_cmpR (op_eqD hr.units) (pe_ix ix_tup (pe_g c_law_rest hr (pa_cons (pe_g c_law_with hr (pa_cons (pv 2) (pa_cons (pv 5) (pa_cons (pe_tup (pa_cons (pe_ix ix_tup (pe_ix ix_tup (pv 2) (pv 5) (fun _ _ => rfl)) pe_int (fun _ _ => rfl)) (pa_cons (pv 13) pa_nil))) pa_nil)))) (pa_cons (pv 3) (pa_cons (pv 4) pa_nil)))) pe_int (fun _ _ => rfl)) (pv 10) (nomark _))
      (pss_one (ps_expr (pe_bm PySem.F.plainAttrs_list PySem.F.slot_list_append PySem.F.type_list_append mt_append (pv 12) (pa_cons (pv 13) pa_nil))))
      pss_nil))))
      (pss_cons (ps_set (i := 14) sc_law.nd rfl (Or.inl rfl) (pe_g c_law_ends hr (pa_cons (pv 11) (pa_cons pe_int pa_nil))))
      (pss_cons (ps_if (PW.pt (pw_and (pt_cmpR op_notN (pv 14) pe_non (nomark _)) (pw_and1 (pt_cmpR op_isN (pe_ix ix_tup (pv 14) pe_int (fun _ _ => rfl)) pe_non (nomark _)))))
      (pss_one (ps_set (i := 14) sc_law.nd rfl (Or.inl rfl) (pe_tup (pa_cons (pe_ix ix_tup (pv 14) pe_int (fun _ _ => rfl)) (pa_cons (pe_op op_pow pe_int pe_int) pa_nil)))))
      pss_nil)
      (pss_cons (ps_if (pt_cmpR (op_neD hr.units) (pe_gk k_courtesies hr (pa_cons (pv 2) (pa_cons (pv 3) (pa_cons (pv 10) (pa_cons (pv 5) pa_nil)))) (pk_cons (pv 4) pk_nil)) (pv 14) (nomark _))
      (pss_one (ps_ret pe_bl))
      pss_nil)
      (pss_one (ps_if (pt_cmpR (op_neD hr.units) (pe_gk k_enoughs hr (pa_cons (pv 2) (pa_cons (pv 3) (pa_cons (pv 10) (pa_cons (pv 5) pa_nil)))) (pk_cons (pv 4) pk_nil)) (pe_g c_law_ends hr (pa_cons (pv 12) (pa_cons pe_int pa_nil))) (nomark _))
      (pss_one (ps_ret pe_bl))
      pss_nil))))))))
      (pss_one (ps_if (pt_cmpR (op_neD hr.units) (pe_gd k_courtesies hr (pa_cons (pv 2) (pa_cons (pv 3) (pa_cons (pv 7) (pa_cons pe_int pa_nil))))) (pe_gk k_courtesies hr (pa_cons (pv 2) (pa_cons (pv 3) (pa_cons (pv 7) (pa_cons pe_int pa_nil)))) (pk_cons pe_int pk_nil)) (nomark _))
      (pss_one (ps_ret pe_bl))
      pss_nil))))))))))
      (pss_one (ps_ret pe_bl))), ?_⟩
    refine ⟨_, rfl, a, ns, 6, rfl, hs, by decide, by decide, fun l bs H1 s1 nl hbs hba => ⟨l, rfl, ⟨_, SqL.of hbs⟩, ?_⟩⟩
    refine for_list (K := K) (a := l) (xs := bs.map V.ref) (fun j σ H' => ∃ (v1 v2 v3 v4 v5 v6 v7 v8 v9 v10 v11 v12 v13 v14 : Option V), σ = [some (.ref a), v1, v2, v3, v4, v5, v6, v7, v8, v9, v10, v11, v12, v13, v14] ∧ Evw H1 H' ∧ TabsN T H') ⟨none, none, none, none, none, none, none, none, none, none, none, none, none, none, rfl, Evw.refl _, Same.tabs s1 hT⟩ ?_ ?_ ?_
    · rintro j σ H' hj ⟨v1, v2, v3, v4, v5, v6, v7, v8, v9, v10, v11, v12, v13, v14, rfl, ev, hT'⟩
      exact SqL.of (ev.refsH hbs)
    · rintro j x σ H2 hx ⟨v1, v2, v3, v4, v5, v6, v7, v8, v9, v10, v11, v12, v13, v14, rfl, ev, hT2⟩
      rw [List.getElem?_map] at hx
      obtain ⟨b, hb, rfl⟩ : ∃ b, bs[j]? = some b ∧ x = .ref b := by
        cases e : bs[j]? with
        | none => rw [e] at hx; cases hx
        | some b => rw [e] at hx; exact ⟨b, rfl, (Option.some.inj hx).symm⟩
      have Ba : BagAt K H2 b := (hba b (List.mem_of_getElem? hb)).evw ev
      -- table, dish
      refine ⟨_, rfl, b, 4, 14, rfl, Ba, by decide, by decide, by decide, fun ta t H3 e3 tb t1 t4 lim => ?_⟩
      refine ⟨_, rfl, b, 31, rfl, Ba.evo e3, by decide, fun d H4 e4 d0 d31 => ⟨_, _, rfl, ?_⟩⟩
      have ok : TabOk t := lim.ok (by omega) t1 (by omega)
      have n4 : t.length ≤ 4 := by omega
      obtain ⟨xs, hxs, hlx, hgx⟩ := tb.open
      have e24 := e3.trans e4
      -- begin, seat
      refine nx_mk ⟨_, rfl, _, rfl, ta, xs, rfl, .inr (e4.sqt hxs), b, _, rfl, Ba.evo e24, by omega, fun fi H5 e5 f0 f1 => ?_⟩
      have e25 := e24.trans e5
      refine ⟨_, rfl, _, rfl, ta, xs, rfl, .inr (e5.sqt (e4.sqt hxs)), b, _, rfl, Ba.evo e25, by omega, fun pi H6 e6 p0 p1 => ⟨_, _, rfl, ?_⟩⟩
      obtain ⟨fs, rfl⟩ : ∃ fs : Nat, fi = (fs : Int) := ⟨fi.toNat, by omega⟩
      obtain ⟨p, rfl⟩ : ∃ p : Nat, pi = (p : Int) := ⟨pi.toNat, by omega⟩
      have hf : fs < t.length := by omega
      have hp : p < t.length := by omega
      have e26 := e25.trans e6
      -- other
      refine nx_mk ⟨_, rfl, b, 14, rfl, Ba.evo e26, by decide, fun oc H7 e7 oc0 oc1 => ?_⟩
      have e27 := e26.trans e7
      refine ⟨_, rfl, b, 14, rfl, Ba.evo e27, by decide, fun om H8 e8 om0 om1 => ?_⟩
      have e28 := e27.trans e8
      refine ⟨by show 2 ≤ sizeLine; decide, fun p2 hp2 => ?_⟩
      have e9 := Same.evo (same_upd (o := .lst (([none, some om] : List (Option Int)).map optV)) hp2)
      have e29 := e28.trans e9
      refine ⟨_, rfl, b, 2, rfl, Ba.evo e29, by decide, fun z2 H10 e10 c0' c1' => ?_⟩
      have hp10 : H10 p2 = some (.lst (([none, some om] : List (Option Int)).map optV)) := e10.keep upd_same fun _ _ z => by have := HO.lst.inj z; cases this
      have zk2 : z2.toNat < ([none, some om] : List (Option Int)).length := by show z2.toNat < 2; omega
      refine ⟨p2, _, _, _, rfl, rfl, SqL.of hp10, at_of (j := z2.toNat) (by omega) (map_at (List.getElem?_eq_getElem zk2)), ?_⟩
      have ob : ∀ y ∈ ([none, some om] : List (Option Int)), ∀ m, y = some m → 0 ≤ m ∧ m < 14 := fun y hy m hm => by
        subst hm
        simp only [List.mem_cons, List.not_mem_nil, or_false] at hy
        rcases hy with h | h
        · cases h
        · cases h; exact ⟨om0, om1⟩
      have oob := ob _ (List.getElem_mem zk2)
      generalize ([none, some om] : List (Option Int))[z2.toNat] = oe at oob ⊢
      refine ⟨by show 2 ≤ sizeLine; decide, fun qo hqo => ?_⟩
      have s11 := same_upd (o := .tup [.int oc, optV oe]) hqo
      have hqo11 : (upd H10 qo (.tup [.int oc, optV oe])) qo = some (.tup [.int oc, optV oe]) := upd_same
      have e211 := (e29.trans e10).trans (Same.evo s11)
      have e411 : Evo H4 (upd H10 qo (.tup [.int oc, optV oe])) := (((((e5.trans e6).trans e7).trans e8).trans e9).trans e10).trans (Same.evo s11)
      generalize upd H10 qo (.tup [.int oc, optV oe]) = H11 at hqo11 e211 e411 ⊢
      have tb11 := (tb.evo e4).evo e411
      -- own
      refine nx_mk ⟨_, rfl, _, rfl, _, rfl, ta, t, fs, d, rfl, tb11, ok, hf, d0, by omega, fun q1 lh lt ps k H12 s12 nlh nlt hq hh ht tk ek => ⟨q1, _, _, _, rfl, rfl, SqT.of hq, rfl, ?_⟩⟩
      have e212 := e211.trans (Same.evo s12)
      -- at
      refine nx_mk ⟨_, rfl, _, rfl, lh, _, rfl, .inl (SqL.of hh), b, _, rfl, Ba.evo e212, by rw [List.length_map, finL_len]; have := ok.1; omega, fun ai H13 e13 a0 a1 => ?_⟩
      rw [List.length_map, finL_len] at a1
      obtain ⟨j0, rfl⟩ : ∃ j0 : Nat, ai = (j0 : Int) := ⟨ai.toNat, by omega⟩
      have hj0 : j0 < t.length := by omega
      have hh13 := e13.intsH hh
      have e213 := e212.trans e13
      refine nx_mk (renorm8 (σ' := [some (.ref a), some (.ref b), some (.ref ta), some (.int d), some (.int (fs : Int)), some (.int (p : Int)), some (.ref qo), some (.ref lh), some (.int (j0 : Int)), v9, v10, v11, v12, v13, v14]) rfl ?_)
      -- bent
      refine ⟨_, rfl, _, rfl, _, rfl, cut_list (lo := none) (SqL.of hh13) fun r1 H14 s14 hr1 => ?_⟩
      rw [cut_take, ← List.map_take] at hr1
      refine ⟨_, rfl, _, rfl, lh, _, _, _, rfl, rfl, SqL.of (s14 _ _ hh13), atI_nat (map_at (finL_get hj0)), ?_⟩
      refine ⟨_, rfl, by show 2 ≤ sizeLine; decide, fun p3 hp3 => ?_⟩
      have s15 := same_upd (o := .lst (([1, -1] : List Int).map V.int)) hp3
      refine ⟨_, rfl, b, 2, rfl, (Ba.evo e213).evo (Same.evo (Same.trans s14 s15)), by decide, fun z5 H16 e16 c2 c3 => ?_⟩
      have hp16 : H16 p3 = some (.lst (([1, -1] : List Int).map V.int)) := e16.intsH (ns := [1, -1]) upd_same
      have zk5 : z5.toNat < ([1, -1] : List Int).length := by show z5.toNat < 2; omega
      refine ⟨p3, _, _, _, rfl, rfl, SqL.of hp16, at_of (j := z5.toNat) (by omega) (map_at (List.getElem?_eq_getElem zk5)), ?_⟩
      have yb : ∀ y ∈ ([1, -1] : List Int), -1 ≤ y ∧ y ≤ 1 := fun y hy => by
        simp only [List.mem_cons, List.not_mem_nil, or_false] at hy
        omega
      have yy := yb _ (List.getElem_mem zk5)
      generalize ([1, -1] : List Int)[z5.toNat] = y5 at yy ⊢
      have hb0 := fin_had_le ok fs d0 j0
      refine ⟨_, _, rfl, rfl, _, _, rfl, by show 1 ≤ sizeLine; decide, fun p4 hp4 => ?_⟩
      obtain ⟨bx, ebx⟩ : ∃ bx : Int, bx = (if (Fin t fs d).had j0 + y5 > 0 then (Fin t fs d).had j0 + y5 else 0) := ⟨_, rfl⟩
      have bxb : 0 ≤ bx ∧ bx ≤ 1000000000000000000 := by rw [ebx]; split <;> omega
      rw [← ebx]
      have s17 := same_upd (o := .lst (([bx] : List Int).map V.int)) hp4
      have h17 : (upd H16 p4 (.lst (([bx] : List Int).map V.int))) p4 = some (.lst (([bx] : List Int).map V.int)) := upd_same
      have hr1' := s17 _ _ (e16.intsH (s15 _ _ hr1))
      refine cat_ints hr1' h17 (by rw [List.length_take, finL_len]; show _ + 1 ≤ 1000; omega) fun r2 H18 nr2 s18 hr2 => ?_
      have hh18 := s18 _ _ (s17 _ _ (e16.intsH (s15 _ _ (s14 _ _ hh13))))
      refine ⟨_, rfl, _, rfl, _, _, rfl, rfl, _, rfl, np_mk (cut_list (hi := none) (SqL.of hh18) fun r3 H19 s19 hr3 => ?_)⟩
      have hr3' : H19 r3 = some (.lst (((finL t fs d).drop (j0 + 1)).map V.int)) := by
        rw [hr3, List.map_drop]
        exact congrArg (fun z => some (HO.lst z)) (cut_drop _ (j0 + 1))
      refine cat_ints (s19 _ _ hr2) hr3' (by rw [List.length_append, List.length_take, List.length_drop, finL_len]; show _ + 1 + _ ≤ 1000; omega) fun r4 H20 nr4 s20 hr4 => ?_
      have e1320 : Evo H13 H20 := ((Same.evo (Same.trans s14 s15)).trans e16).trans (Same.evo (Same.trans (Same.trans s17 s18) (Same.trans s19 s20)))
      have e1120 : Evo H11 H20 := ((Same.evo s12).trans e13).trans e1320
      have e220 := e213.trans e1320
      have tb20 := tb11.evo e1120
      have hqo20 : SqT K H20 qo [.int oc, optV oe] := e1120.sqt (SqT.of hqo11)
      have hh20 := e1320.intsH hh13
      have hadb : ∀ (u : List Guest), TabOk u → u.length = t.length → ∀ m ∈ finL u fs d, 0 ≤ m ∧ m ≤ d := fun u oku lu m hm => by
        obtain ⟨i, hi⟩ := List.mem_iff_getElem?.mp hm
        have il : i < u.length := by
          have := (List.getElem?_eq_some_iff.mp hi).1
          rw [finL_len] at this
          exact this
        rw [finL_get il] at hi
        cases hi
        exact fin_had_le oku fs d0 i
      have bent : ShareL H20 t.length (.ref r4) := ⟨r4, _, rfl, hr4, by rw [List.length_append, List.length_append, List.length_take, List.length_drop, finL_len]; show _ + 1 + _ = _; omega, fun m hm => by
        rcases List.mem_append.mp hm with h | h
        · rcases List.mem_append.mp h with h | h
          · have := hadb t ok rfl m (List.mem_of_mem_take h)
            omega
          · have : m = bx := by simpa using h
            rw [this]; exact bxb
        · have := hadb t ok rfl m (List.mem_of_mem_drop h)
          omega⟩
      have own : ShareL H20 t.length (.ref lh) := ⟨lh, _, rfl, hh20, finL_len _ _ _, fun m hm => by have := hadb t ok rfl m hm; omega⟩
      have okw : TabOk (t.set p (oc, oe)) := tabok_set ok ⟨oc0, by show oc ≤ _; omega⟩ fun m hm => by have := oob m hm; omega
      have lw : (t.set p (oc, oe)).length = t.length := List.length_set
      -- for some in (..)
      refine nx_mk ⟨_, rfl, _, rfl, _, rfl, _, rfl, ta, t, p, qo, (oc, oe), rfl, tb20, by omega, hp, hqo20, fun tw H21 s21 tbw => ?_⟩
      refine ⟨_, rfl, _, rfl, tw, t.set p (oc, oe), fs, d, rfl, tbw, okw, by rw [lw]; exact hf, d0, by omega, fun q2 l2 lt2 ps2 k2 H22 s22 nl2 nlt2 hq2 hl2 ht2 tk2 ek2 => ⟨q2, _, _, _, rfl, rfl, SqT.of hq2, rfl, _, rfl, by show 3 ≤ sizeLine; decide, fun pt hpt => ?_⟩⟩
      have s23 := same_upd (o := .tup [.ref lh, .ref l2, .ref r4]) hpt
      have hpt23 : (upd H22 pt (.tup [.ref lh, .ref l2, .ref r4])) pt = some (.tup [.ref lh, .ref l2, .ref r4]) := upd_same
      have s2023 := Same.trans (Same.trans s21 s22) s23
      have hl23 := s23 _ _ hl2
      generalize upd H22 pt (.tup [.ref lh, .ref l2, .ref r4]) = H23 at hpt23 s2023 hl23 s23 ⊢
      have shares3 : ∀ x ∈ [V.ref lh, V.ref l2, V.ref r4], ShareL H23 t.length x := fun x hx => by
        simp only [List.mem_cons, List.not_mem_nil, or_false] at hx
        rcases hx with rfl | rfl | rfl
        · exact own.evw (Same.evo s2023).w
        · exact ⟨l2, _, rfl, hl23, by rw [finL_len, lw], fun m hm => by have := hadb _ okw lw m hm; omega⟩
        · exact bent.evw (Same.evo s2023).w
      have e223 := e220.trans (Same.evo s2023)
      have hT23 := e223.tabs hT2
      have tb23 := tb20.same s2023
      have hxs23 := Same.sqt s2023 (e1120.sqt (e411.sqt (e4.sqt hxs)))
      have hh23 := s2023 _ _ hh20
      refine ⟨pt, rfl, ⟨_, SqT.of hpt23⟩, ?_⟩
      refine for_tup (K := K) (a := pt) (xs := [.ref lh, .ref l2, .ref r4]) (fun j σ H' => ∃ (v10 v11 v12 v13 v14 : Option V), σ = [some (.ref a), some (.ref b), some (.ref ta), some (.int d), some (.int (fs : Int)), some (.int (p : Int)), some (.ref qo), some (.ref lh), some (.int (j0 : Int)), some (.ref r4), v10, v11, v12, v13, v14] ∧ EvN H23 H' ∧ TabsN T H') ⟨_, _, _, _, _, rfl, EvN.refl _, hT23⟩ ?_ ?_ ?_
      · rintro j σ H' hj ⟨v10, v11, v12, v13, v14, rfl, ev', hT'⟩
        exact ev'.sqt (SqT.of hpt23)
      · rintro j x σ H24 hx ⟨v10, v11, v12, v13, v14, rfl, e24', hT24⟩
        obtain ⟨sl, ss, rfl, hsl23, lss, bss⟩ := shares3 x (List.mem_of_getElem? hx)
        have hsl24 := e24'.lst hsl23
        have tb24 := tb23.evn e24'
        have hxs24 := e24'.sqt hxs23
        have hgt := List.getElem?_eq_getElem hp
        obtain ⟨pg, ep, hpg⟩ := hgx p _ hgt
        have gi : D.gs t p = t[p] := gs_at hgt
        have gok := ok.2.2 _ (List.getElem_mem hp)
        have hpg24 := e24'.sqt (Same.sqt s2023 (e1120.sqt (e411.sqt (e4.sqt hpg))))
        generalize t[p] = g at hgt hpg gi gok hpg24
        obtain ⟨cc, o⟩ := g
        have okC : ∀ m, 0 ≤ m → m ≤ 1000000000000000000 → TabOk (t.set p (m, o)) := fun m h0 h1 => tabok_set ok ⟨h0, h1⟩ gok.2.2
        have okE : ∀ m, 0 ≤ m → m ≤ 1000000000000000000 → TabOk (t.set p (cc, some m)) := fun m h0 h1 => tabok_set ok ⟨gok.1, gok.2.1⟩ fun x hx => by cases hx; exact ⟨h0, h1⟩
        have lset : ∀ g : Guest, (t.set p g).length = t.length := fun g => List.length_set
        -- good, fits_so
        refine ⟨by show 0 ≤ sizeLine; decide, fun g1 hg1 => ⟨by show 0 ≤ sizeLine; decide, fun g2 hg2 => ⟨_, _, rfl, ?_⟩⟩⟩
        have s25 := same_upd (o := .lst (([] : List Int).map V.int)) hg1
        have s26 := same_upd (o := .lst (([] : List Int).map V.int)) hg2
        have g21 : g2 ≠ g1 := fun z => by
          have hg2' : (upd H24 g1 (.lst [])) g2 = none := hg2
          rw [z, upd_same] at hg2'
          cases hg2'
        have hg2n : H24 g2 = none := by
          have hg2' : (upd H24 g1 (.lst [])) g2 = none := hg2
          rw [upd_ne g21] at hg2'
          exact hg2'
        refine nx_mk ⟨_, rfl, by decide, by decide, ?_⟩
        refine for_range0 (n := Int.toNat 40) (fun i σ H' => ∃ (v13 : Option V) (ys1 ys2 : List Int), σ = [some (.ref a), some (.ref b), some (.ref ta), some (.int d), some (.int (fs : Int)), some (.int (p : Int)), some (.ref qo), some (.ref lh), some (.int (j0 : Int)), some (.ref r4), some (.ref sl), some (.ref g1), some (.ref g2), v13, v14] ∧ Same H24 H' ∧ H' g1 = some (.lst (ys1.map V.int)) ∧ H' g2 = some (.lst (ys2.map V.int)) ∧
          Goods (fun c => finL (t.set p (c, (D.gs t p).2)) fs d = ss) i ys1 ∧ Goods (fun e => finL (t.set p ((D.gs t p).1, some e)) fs d = ss) i ys2) ⟨_, [], [], rfl, Same.trans s25 s26, s26 _ _ upd_same, upd_same, .nil, .nil⟩ ?_ ?_
        · rintro i σ H27 hi40 ⟨v13, ys1, ys2, rfl, s27, hy1, hy2, gd1, gd2⟩
          have i40 : i < 40 := hi40
          have tb27 := tb24.same s27
          have hxs27 := Same.sqt s27 hxs24
          have hpg27 := Same.sqt s27 hpg24
          have hsl27 := s27 _ _ hsl24
          refine seqP (fun σ' H' => σ' = [some (.ref a), some (.ref b), some (.ref ta), some (.int d), some (.int (fs : Int)), some (.int (p : Int)), some (.ref qo), some (.ref lh), some (.int (j0 : Int)), some (.ref r4), some (.ref sl), some (.ref g1), some (.ref g2), some (.int (i : Int)), v14] ∧ ∃ ys1 : List Int, Same H24 H' ∧ H' g1 = some (.lst (ys1.map V.int)) ∧ H' g2 = some (.lst (ys2.map V.int)) ∧ Goods (fun c => finL (t.set p (c, (D.gs t p).2)) fs d = ss) (i + 1) ys1) (fun D' k => ?_) ?_
          · refine ⟨_, rfl, _, rfl, _, rfl, _, rfl, _, rfl, ta, xs, _, _, rfl, rfl, hxs27, atI_nat ep, pg, _, _, _, rfl, rfl, hpg27, rfl, by show 2 ≤ sizeLine; decide, fun u hu => ?_⟩
            have su := same_upd (o := .tup [.int (i : Int), optV o]) hu
            refine ⟨ta, t, p, u, ((i : Int), o), rfl, tb27.same su, by omega, hp, SqT.of upd_same, fun tw' Hw sw tbw' => ?_⟩
            refine ⟨_, rfl, _, rfl, tw', t.set p ((i : Int), o), fs, d, rfl, tbw', okC _ (by omega) (by omega), by rw [lset]; exact hf, d0, by omega, fun q3 l3 lt3 ps3 k3 H28 s28 nl3 nlt3 hq3 hl3 ht3 tk3 ek3 => ⟨q3, _, _, _, rfl, rfl, SqT.of hq3, rfl, _, rfl, ?_⟩⟩
            have s2728 := Same.trans (Same.trans su sw) s28
            have s2428 := Same.trans s27 s2728
            refine eq_ints (SqL.of hl3) (SqL.of (s2728 _ _ hsl27)) ⟨_, rfl, ?_⟩
            by_cases eq : finL (t.set p ((i : Int), o)) fs d = ss
            · rw [decide_eq_true eq]
              refine iteT ⟨_, rfl, .inl ⟨rfl, _, SqL.of (s2728 _ _ hy1)⟩, ?_⟩
              refine ⟨_, rfl, g1, _, _, rfl, rfl, s2728 _ _ hy1, by rw [List.length_map]; exact small1000 (by have := gd1.len; omega), ?_⟩
              exact k _ _ ⟨rfl, ys1 ++ [(i : Int)], upd_kept s2428 hg1, by rw [upd_same, List.map_append]; rfl, by rw [upd_ne g21]; exact s2728 _ _ hy2, gd1.yes (by show finL (t.set p ((i : Int), (D.gs t p).2)) fs d = ss; rw [gi]; exact eq)⟩
            · rw [decide_eq_false eq]
              exact iteF (k _ _ ⟨rfl, ys1, s2428, s2728 _ _ hy1, s2728 _ _ hy2, gd1.no (by show ¬ finL (t.set p ((i : Int), (D.gs t p).2)) fs d = ss; rw [gi]; exact eq)⟩)
          rintro σ' H29 ⟨rfl, ys1', s29, hy1', hy2', gd1'⟩
          have tb29 := tb24.same s29
          have hxs29 := Same.sqt s29 hxs24
          have hpg29 := Same.sqt s29 hpg24
          have hsl29 := s29 _ _ hsl24
          refine ⟨_, rfl, _, rfl, _, rfl, _, rfl, ta, xs, _, _, rfl, rfl, hxs29, atI_nat ep, pg, _, _, _, rfl, rfl, hpg29, rfl, _, rfl, by show 2 ≤ sizeLine; decide, fun u hu => ?_⟩
          have su := same_upd (o := .tup [.int cc, .int (i : Int)]) hu
          refine ⟨ta, t, p, u, (cc, some (i : Int)), rfl, tb29.same su, by omega, hp, SqT.of upd_same, fun tw' Hw sw tbw' => ?_⟩
          refine ⟨_, rfl, _, rfl, tw', t.set p (cc, some (i : Int)), fs, d, rfl, tbw', okE _ (by omega) (by omega), by rw [lset]; exact hf, d0, by omega, fun q3 l3 lt3 ps3 k3 H28 s28 nl3 nlt3 hq3 hl3 ht3 tk3 ek3 => ⟨q3, _, _, _, rfl, rfl, SqT.of hq3, rfl, _, rfl, ?_⟩⟩
          have s2928 := Same.trans (Same.trans su sw) s28
          have s2428 := Same.trans s29 s2928
          refine eq_ints (SqL.of hl3) (SqL.of (s2928 _ _ hsl29)) ⟨_, rfl, ?_⟩
          by_cases eq : finL (t.set p (cc, some (i : Int))) fs d = ss
          · rw [decide_eq_true eq]
            refine iteT ⟨_, rfl, .inl ⟨rfl, _, SqL.of (s2928 _ _ hy2')⟩, ?_⟩
            refine ⟨_, rfl, g2, _, _, rfl, rfl, s2928 _ _ hy2', by rw [List.length_map]; exact small1000 (by have := gd2.len; omega), ?_⟩
            exact ⟨_, ys1', ys2 ++ [(i : Int)], rfl, upd_kept s2428 hg2n, by rw [upd_ne (Ne.symm g21)]; exact s2928 _ _ hy1', by rw [upd_same, List.map_append]; rfl, gd1', gd2.yes (by show finL (t.set p ((D.gs t p).1, some (i : Int))) fs d = ss; rw [gi]; exact eq)⟩
          · rw [decide_eq_false eq]
            exact iteF ⟨_, ys1', ys2, rfl, s2428, s2928 _ _ hy1', s2928 _ _ hy2', gd1', gd2.no (by show ¬ finL (t.set p ((D.gs t p).1, some (i : Int))) fs d = ss; rw [gi]; exact eq)⟩
        rintro σ H27 ⟨v13, ys1, ys2, rfl, s27, hy1, hy2, gd1, gd2⟩
        -- due
        refine nx_mk ⟨_, rfl, arg1 ⟨g1, ys1, 39, rfl, SqL.of hy1, fun vd H28 s28 hvd => ?_⟩⟩
        have hy2' := s28 _ _ hy2
        have s2428 := Same.trans s27 s28
        refine nx_mk (seqP (fun σ' H' => ∃ vd' : V, σ' = [some (.ref a), some (.ref b), some (.ref ta), some (.int d), some (.int (fs : Int)), some (.int (p : Int)), some (.ref qo), some (.ref lh), some (.int (j0 : Int)), some (.ref r4), some (.ref sl), some (.ref g1), some (.ref g2), v13, some vd'] ∧ Same H28 H' ∧ EnoughV K H' (fixO (endsO ys1 39)) vd') (fun D' k => ?_) ?_)
        · generalize endsO ys1 39 = oo at hvd k
          cases oo with
          | none =>
            obtain rfl : vd = .non := hvd
            exact ⟨_, rfl, rfl, _, rfl, iteF (iteF (k _ _ ⟨.non, rfl, Same.refl _, rfl⟩))⟩
          | some x =>
            obtain ⟨lo, hi⟩ := x
            obtain ⟨qd, rfl, hqd⟩ := hvd
            refine ⟨_, rfl, rfl, _, rfl, iteT ⟨_, rfl, qd, _, _, _, rfl, rfl, hqd, rfl, rfl, _, rfl, ?_⟩⟩
            cases hi with
            | none =>
              refine iteT ⟨_, rfl, qd, _, _, _, rfl, rfl, hqd, rfl, _, _, rfl, rfl, ⟨by decide, by decide, by decide⟩, by show 2 ≤ sizeLine; decide, fun r9 hr9 => ?_⟩
              refine k _ _ ⟨.ref r9, rfl, same_upd hr9, r9, rfl, ?_⟩
              refine SqT.of ?_
              rw [upd_same]
              rfl
            | some h => exact iteF (k _ _ ⟨.ref qd, rfl, Same.refl _, qd, rfl, hqd⟩)
        rintro σ' H29 ⟨vd', rfl, s29, hvd'⟩
        have s2429 := Same.trans s2428 s29
        have hy29 := s29 _ _ hy2'
        have hn := ok.1
        have d30 : d ≤ 30 := by omega
        have c00 : 0 ≤ (D.gs t p).1 := by rw [gi]; exact gok.1
        -- courtesies
        refine guardRS (fun H' => EvN H29 H' ∧ TabsN T H') (fun Q' k => ?_) (fun H30 r30 => ?_)
        · refine ⟨_, rfl, _, rfl, _, rfl, _, rfl, _, rfl, rfl, rfl, ta, sl, t, d, ss, p, fs, rfl, tb24.same s2429, ok, d0, by omega, SqL.of (s2429 _ _ hsl24), lss, bss, hp, hf, Same.tabs s2429 hT24, fun v1' o1 H30 e30 hT30 hv1 ho1 => ⟨_, rfl, ?_⟩⟩
          have m := court_match hn d30 hp ho1 gd1
          have hd30 := hvd'.evn e30
          rw [m] at hd30
          exact end_ne hv1.end hd30 ⟨_, rfl, k _ ⟨e30, hT30⟩⟩
        have e2430 := (Same.evn s2429).trans r30.1
        -- enoughs
        refine next_mk (guardR (fun H' => EvN H30 H' ∧ TabsN T H') (fun Q' k => ?_) (fun H31 r31 => ?_))
        · refine ⟨_, rfl, _, rfl, _, rfl, _, rfl, _, rfl, rfl, rfl, ta, sl, t, d, ss, p, fs, rfl, tb24.evn e2430, ok, d0, by omega, SqL.of (e2430.lst hsl24), lss, bss, hp, hf, r30.2, fun v1' o1 H31 e31 hT31 hv1 ho1 => ?_⟩
          refine ⟨_, rfl, arg1 ⟨g2, ys2, 39, rfl, SqL.of (e31.lst (r30.1.lst hy29)), fun v2' H32 s32 hv2 => ?_⟩⟩
          have m := enough_match d30 hp c00 ho1 gd2
          rw [m] at hv2
          exact end_ne (hv1.evn (Same.evn s32)) hv2 ⟨_, rfl, k _ ⟨e31.trans (Same.evn s32), Same.tabs s32 hT31⟩⟩
        exact ⟨_, _, _, _, _, rfl, e24'.trans (e2430.trans r31.1), r31.2⟩
      rintro σ H24 ⟨v10, v11, v12, v13, v14, rfl, e24', hT24⟩
      have hpos : 0 < t.length := ok.1
      have hadO : ∀ m ∈ finL t fs d, 0 ≤ m ∧ m ≤ 1000000000000000000 := fun m hm => by have := hadb t ok rfl m hm; omega
      refine nx_mk (guardR (fun H' => EvN H24 H' ∧ TabsN T H') (fun Q' k => ?_) (fun H31 r31 => ?_))
      · refine ⟨_, rfl, _, rfl, _, rfl, arg1 ⟨ta, lh, t, d, finL t fs d, 0, 0, rfl, tb23.evn e24', ok, d0, by omega, SqL.of (e24'.lst hh23), finL_len _ _ _, hadO, hpos, hpos, hT24, fun v1' o1 H30 e30 hT30 hv1 ho1 => ?_⟩⟩
        refine ⟨_, rfl, _, rfl, _, rfl, arg1 (arg1 ⟨rfl, rfl, ta, lh, t, d, finL t fs d, 0, 0, rfl, tb23.evn (e24'.trans e30), ok, d0, by omega, SqL.of (e30.lst (e24'.lst hh23)), finL_len _ _ _, hadO, hpos, hpos, hT30, fun v2' o2 H31 e31 hT31 hv2 ho2 => ?_⟩)⟩
        have eo := court_unique ho1 ho2
        subst eo
        exact end_ne (hv1.end.evn e31) hv2.end ⟨_, rfl, k _ ⟨e30.trans e31, hT31⟩⟩
      · exact ⟨_, _, _, _, _, _, _, _, _, _, _, _, _, _, rfl, ev.trans ((e223.w.trans e24'.w).trans r31.1.w), r31.2⟩
    · rintro σ H' ⟨v1, v2, v3, v4, v5, v6, v7, v8, v9, v10, v11, v12, v13, v14, rfl, ev, hT'⟩
      exact q _
end
end Lp
namespace Lp
open PySem PySem.Spec PyProof.Rows L2
section
variable {P : Program} {w : World} {K : PySem.W.Frag} {mg : Str → Option Value} {base : Heap} {C : Addr} {x m qual : Str} {st : Stmt} {k n : Nat} {ps : List Str} {sp : Sp}
theorem DefIn.cal (D : DefIn K mg x st) (h : ∀ f fd, L2.Fun K x x st f fd → FnOk P w K mg base L2.CX0 k f fd ps sp)
    (hb : ∀ (kV doc pm : Value) (an : Option Addr) (cdv ct : Value) (us : List Value), us.length = ps.length → bindArgs (PySem.W.fnOf x x (defArgs st) (defBody st) (defScope st) .none kV doc pm an cdv ct) ⟨us, []⟩ = pure (ps.zip us)) : Cal P w K mg base k x sp := by
  obtain ⟨f, fd, F, hm⟩ := D.ex
  exact ⟨f, fd, ps, h f fd F, hm, F.kp, F.binds hb⟩
theorem MethIn.met (D : MethIn K C m qual st) (cl : Cls K C) (h : ∀ f fd, L2.Fun K m qual st f fd → FnOk P w K mg base L2.CX0 k f fd ps sp)
    (hb : ∀ (kV doc pm : Value) (an : Option Addr) (cdv ct : Value) (us : List Value), us.length = ps.length → bindArgs (PySem.W.fnOf m qual (defArgs st) (defBody st) (defScope st) .none kV doc pm an cdv ct) ⟨us, []⟩ = pure (ps.zip us)) : Met P w K mg base k C m sp := by
  obtain ⟨f, fd, F, hm⟩ := D.ex
  exact ⟨f, fd, ps, cl, hm, h f fd F, F.binds hb⟩
theorem MethIn.mak (D : MethIn K C "__init__" qual st) (hC : mg x = some (.ref C)) (mk : PySem.W.makesIn K C = true) (kc : PySem.W.keepIn K (.ref C) = true) (h : ∀ f fd, L2.Fun K "__init__" qual st f fd → FnOk P w K mg base L2.CX0 k f fd ps sp)
    (hb : ∀ (kV doc pm : Value) (an : Option Addr) (cdv ct : Value) (us : List Value), us.length = ps.length → bindArgs (PySem.W.fnOf "__init__" qual (defArgs st) (defBody st) (defScope st) .none kV doc pm an cdv ct) ⟨us, []⟩ = pure (ps.zip us)) : Mak P w K mg base k x C sp := by
  obtain ⟨f, fd, F, hm⟩ := D.ex
  exact ⟨f, fd, ps, ⟨mk, hm.at_, hm.fn, kc⟩, h f fd F, hC, F.binds hb⟩
theorem DefKw.cal (D : DefKw K mg x st) (h : ∀ f fd, FunD K x x (defArgs st) (defBody st) (defScope st) [] [("first", .int 0)] f fd → FnOk P w K mg base L2.CX0 k f fd ps sp) (hn : n + 1 = ps.length)
    (h0 : ∀ (D : Addr) (doc pm : Value) (an : Option Addr) (cdv ct : Value) (us ks : List Value), us.length = n → ks.length = 1 → KwChain D ((["first"] : List Str).zip ks) (bindArgs (PySem.W.fnOf x x (defArgs st) (defBody st) (defScope st) .none (.ref D) doc pm an cdv ct) ⟨us, []⟩) (ps.zip (us ++ ks)))
    (h1 : ∀ (kV doc pm : Value) (an : Option Addr) (cdv ct : Value) (us ws : List Value), us.length = n → ws.length = 1 → bindArgs (PySem.W.fnOf x x (defArgs st) (defBody st) (defScope st) .none kV doc pm an cdv ct) ⟨us, (["first"] : List Str).zip ws⟩ = pure (ps.zip (us ++ ws))) : CalK P w K mg base k n x sp := by
  obtain ⟨f, fd, F, hm⟩ := D.ex
  refine ⟨f, fd, ps, h f fd F, hm, F.kp, F.binds0 n (by simp) hn h0, ⟨fun s us ws X l1 l2 => ?_, fun r1 r2 => r1.append r2⟩⟩
  obtain ⟨oc, od, dV, kV, doc, pm, an, cdv, ct, osl, rfl, lk, hcd, hD, hK⟩ := F.ex
  rcases hD with ⟨_, rfl⟩ | ⟨e, _⟩
  · exact .of_eq (h1 kV doc pm an cdv ct us ws l1 l2)
  · exact absurd rfl e
end
theorem _root_.L2.Fun.binds1 {K : PySem.W.Frag} {x qual : Str} {st : Stmt} {f : Addr} {fd : FuncData} (F : L2.Fun K x qual st f fd)
    (hb : ∀ (kV doc pm : Value) (an : Option Addr) (cdv ct : Value) (us : List Value), us.length = (["script"] : List Str).length → bindArgs (PySem.W.fnOf x qual (defArgs st) (defBody st) (defScope st) .none kV doc pm an cdv ct) ⟨us, []⟩ = pure ((["script"] : List Str).zip us)) (s : Shared) (v : Value) : BindsTo s fd ⟨[v], []⟩ [("script", v)] := by
  obtain ⟨oc, od, kV, doc, pm, an, cdv, ct, osl, rfl, lk, hcd⟩ := F.ex
  exact .of_eq (hb kV doc pm an cdv ct [v] rfl)
end Lp
namespace Lp
open PySem PySem.Spec PyProof.Rows L2 LamX NdefX
/-- a def under its name, its code object at c -/
structure DefC (K : PySem.W.Frag) (mg : Str → Option Value) (x : Str) (st : Stmt) (c : Addr) : Prop where
  ex : ∃ (f : Addr) (fd : FuncData), FunC K x x st f c fd ∧ mg x = some (.ref f)
theorem defC_mk {K : PySem.W.Frag} {h : Heap} {mg : Str → Option Value} {x : Str} {st : Stmt} {f c : Addr} {oc : Value} {od an : Option Addr} {osl : Array (Option Value)} {kV doc pm ct : Value} (X : K.In h) (G : h.Ns mainGlobals mg) (a : PySem.W.nsIn K mainGlobals x = some (some (.ref f)))
    (l : K.lookup f = some ⟨oc, od, .func (PySem.W.fnOf x x (defArgs st) (defBody st) (defScope st) .none kV doc pm an (.ref c) ct), osl⟩) (cd : PySem.W.codeIn K (.ref c) x = true) (k : PySem.W.keepIn K (.ref f) = true) : DefC K mg x st c :=
  ⟨f, _, ⟨⟨oc, od, kV, doc, pm, an, ct, osl, rfl, l, cd⟩, k⟩, PySem.W.mg_of X G a⟩
section
variable {P : Program} {w : World} {K : PySem.W.Frag} {mg : Str → Option Value} {base : Heap} {x : Str} {st : Stmt} {c : Addr} {k n : Nat} {ps : List Str} {sp : Sp}
theorem DefC.cal (D : DefC K mg x st c) (h : ∀ f fd, FunC K x x st f c fd → FnOk P w K mg base L2.CX0 k f fd ps sp)
    (hb : ∀ (kV doc pm : Value) (an : Option Addr) (cdv ct : Value) (us : List Value), us.length = ps.length → bindArgs (PySem.W.fnOf x x (defArgs st) (defBody st) (defScope st) .none kV doc pm an cdv ct) ⟨us, []⟩ = pure (ps.zip us)) : Cal P w K mg base k x sp := by
  obtain ⟨f, fd, F, hm⟩ := D.ex
  exact ⟨f, fd, ps, h f fd F, hm, F.kp, F.fn.binds hb⟩
theorem DefIn.lt (D : DefIn K mg "least_true" s_least_true) : CalLT P w K mg base "least_true" := by
  obtain ⟨f, fd, F, hm⟩ := D.ex
  exact lt_run F hm
end
end Lp
namespace Lp
open PySem PySem.Spec PyProof.Rows L2 LamX NdefX
/-- a def with the keyword first under its name, its code object at c -/
structure DefKwC (K : PySem.W.Frag) (mg : Str → Option Value) (x : Str) (st : Stmt) (c : Addr) : Prop where
  ex : ∃ (f : Addr) (fd : FuncData), FunDC K x x st f c fd ∧ mg x = some (.ref f)
theorem defKwC_mk {K : PySem.W.Frag} {h : Heap} {mg : Str → Option Value} {x : Str} {st : Stmt} {f D c : Addr} {oc : Value} {od an : Option Addr} {osl : Array (Option Value)} {doc pm ct u : Value} (X : K.In h) (G : h.Ns mainGlobals mg) (a : PySem.W.nsIn K mainGlobals x = some (some (.ref f)))
    (l : K.lookup f = some ⟨oc, od, .func (PySem.W.fnOf x x (defArgs st) (defBody st) (defScope st) .none (.ref D) doc pm an (.ref c) ct), osl⟩) (d : PySem.W.nsIn K D "first" = some (some u)) (r : RelV (.int 0) u) (cd : PySem.W.codeIn K (.ref c) x = true) (k : PySem.W.keepIn K (.ref f) = true) : DefKwC K mg x st c :=
  ⟨f, _, ⟨⟨⟨oc, od, _, _, doc, pm, an, .ref c, ct, osl, rfl, l, cd, .inl ⟨rfl, rfl⟩, .inr ⟨D, rfl, fun q hq => by
    rcases List.mem_cons.mp hq with e | hq
    · rw [e]; exact ⟨_, d, r⟩
    · cases hq⟩⟩, k⟩, rfl⟩, PySem.W.mg_of X G a⟩
section
variable {P : Program} {w : World} {K : PySem.W.Frag} {mg : Str → Option Value} {base : Heap} {x : Str} {st : Stmt} {c : Addr} {k n : Nat} {ps : List Str} {sp : Sp}
theorem DefKwC.cal (D : DefKwC K mg x st c) (h : ∀ f fd, FunDC K x x st f c fd → FnOk P w K mg base L2.CX0 k f fd ps sp) (hn : n + 1 = ps.length)
    (h0 : ∀ (D : Addr) (doc pm : Value) (an : Option Addr) (cdv ct : Value) (us ks : List Value), us.length = n → ks.length = 1 → KwChain D ((["first"] : List Str).zip ks) (bindArgs (PySem.W.fnOf x x (defArgs st) (defBody st) (defScope st) .none (.ref D) doc pm an cdv ct) ⟨us, []⟩) (ps.zip (us ++ ks)))
    (h1 : ∀ (kV doc pm : Value) (an : Option Addr) (cdv ct : Value) (us ws : List Value), us.length = n → ws.length = 1 → bindArgs (PySem.W.fnOf x x (defArgs st) (defBody st) (defScope st) .none kV doc pm an cdv ct) ⟨us, (["first"] : List Str).zip ws⟩ = pure (ps.zip (us ++ ws))) : CalK P w K mg base k n x sp := by
  obtain ⟨f, fd, F, hm⟩ := D.ex
  refine ⟨f, fd, ps, h f fd F, hm, F.fn.kp, F.fn.binds0 n (by simp) hn h0, ⟨fun s us ws X l1 l2 => ?_, fun r1 r2 => r1.append r2⟩⟩
  obtain ⟨oc, od, dV, kV, doc, pm, an, cdv, ct, osl, e, lk, hcd, hD, hK⟩ := F.fn.ex
  subst e
  rcases hD with ⟨_, rfl⟩ | ⟨e, _⟩
  · exact .of_eq (h1 kV doc pm an cdv ct us ws l1 l2)
  · exact absurd rfl e
end
end Lp
namespace Lp
open PySem PySem.Spec PyProof.Rows L2 LamX NdefX
structure Facts (K : PySem.W.Frag) (mg : Str → Option Value) (c0 c1 : Addr) : Prop where
  bls : Bls mg
  greatest : Greatest mg
  going : ∃ C : Addr, mg "Going" = some (.ref C) ∧ GoT K C ∧ PySem.W.makesIn K C = true ∧ PySem.W.keepIn K (.ref C) = true ∧ MethIn K C "would_take" "Going.would_take" s_Going_would_take ∧ MethIn K C "visit" "Going.visit" s_Going_visit ∧ MethIn K C "rounds" "Going.rounds" s_Going_rounds ∧ MethIn K C "__init__" "Going.__init__" s_Going_init ∧ MethIn K C "go" "Going.go" s_Going_go
  d_least_true : DefIn K mg "least_true" s_least_true
  d_is_within : DefIn K mg "is_within" s_is_within
  d_is_guest : DefIn K mg "is_guest" s_is_guest
  d_is_table : DefIn K mg "is_table" s_is_table
  d_need_table : DefIn K mg "need_table" s_need_table
  d_need_dish : DefIn K mg "need_dish" s_need_dish
  d_need_seat : DefIn K mg "need_seat" s_need_seat
  d_need_asked : DefIn K mg "need_asked" s_need_asked
  d_rested : DefIn K mg "rested" s_rested
  d_law_cell_at : DefIn K mg "_law_cell_at" s_law_cell_at
  d_law_draws : DefIn K mg "_law_draws" s_law_draws
  d_law_bag : DefIn K mg "_law_bag" s_law_bag
  d_law_bags : DefIn K mg "_law_bags" s_law_bags
  d_law_take : DefIn K mg "_law_take" s_law_take
  d_law_far_draw : DefIn K mg "_law_far_draw" s_law_far_draw
  d_law_table : DefIn K mg "_law_table" s_law_table
  d_law_rest : DefIn K mg "_law_rest" s_law_rest
  d_need_shares : DefIn K mg "need_shares" s_need_shares
  d_with_guest : DefIn K mg "with_guest" s_with_guest
  d_need_seen : DefIn K mg "need_seen" s_need_seen
  d_courtesies : DefKwC K mg "courtesies" s_courtesies c0
  d_enoughs : DefKwC K mg "enoughs" s_enoughs c1
  d_law_with : DefIn K mg "_law_with" s_law_with
  d_law_ends : DefIn K mg "_law_ends" s_law_ends
  d_law : DefIn K mg "law" s_law
theorem fin {P : Program} {w : World} {K : PySem.W.Frag} {mg : Str → Option Value} {fa c0 c1 : Addr} (hfa : mg "law" = some (.ref fa)) (A : Facts K mg c0 c1) :
    ∃ fd : FuncData, (∀ (s : Shared) (v : Value), BindsTo s fd ⟨[v], []⟩ [("script", v)]) ∧ ∀ (base : Heap) (P0 P1 : Addr) (n01 : P0 ≠ P1), K.In base → base.Ns mainGlobals mg → TabB base mg c0 P0 → TabB base mg c1 P1 → FnOk P w K mg base L2.CX0 9 fa fd ["script"] (spLawT K [(P0, cName), (P1, eName)]) := by
  obtain ⟨fl, fd, Fl, hl⟩ := A.d_law.ex
  rw [hfa] at hl
  cases hl
  refine ⟨fd, fun s v => Fl.binds1 (fun _ _ _ _ _ _ us hl => match us, hl with | [_], _ => rfl) s v, fun base P0 P1 n01 KX NX B0 B1 => ?_⟩
  have B := A.bls
  have G := A.greatest
  have I0 : TabIn [(P0, cName), (P1, eName)] P0 cName := ⟨by simp, fun p hp e => by
    simp only [List.mem_cons, List.not_mem_nil, or_false] at hp
    rcases hp with rfl | rfl
    · rfl
    · exact absurd e (Ne.symm n01)⟩
  have I1 : TabIn [(P0, cName), (P1, eName)] P1 eName := ⟨by simp, fun p hp e => by
    simp only [List.mem_cons, List.not_mem_nil, or_false] at hp
    rcases hp with rfl | rfl
    · exact absurd e n01
    · rfl⟩
  obtain ⟨C, hC, T, mkC, kpC, i_would_take, i_visit, i_rounds, i_init, i_go⟩ := A.going
  have c_least_true : CalLT P w K mg base "least_true" := A.d_least_true.lt
  have c_is_within : Cal P w K mg base 1 "is_within" (spWithin K) := A.d_is_within.cal (fun f fd F => ok_is_within F B) (fun _ _ _ _ _ _ us hl => match us, hl with | [_, _, _], _ => rfl)
  have c_is_guest : Cal P w K mg base 2 "is_guest" (spGuest K) := A.d_is_guest.cal (fun f fd F => ok_is_guest F B G c_is_within) (fun _ _ _ _ _ _ us hl => match us, hl with | [_], _ => rfl)
  have c_is_table : Cal P w K mg base 3 "is_table" (spTable K) := A.d_is_table.cal (fun f fd F => ok_is_table F B c_is_guest) (fun _ _ _ _ _ _ us hl => match us, hl with | [_], _ => rfl)
  have c_need_table : Cal P w K mg base 4 "need_table" (spNeedTable K) := A.d_need_table.cal (fun f fd F => ok_need_table F B c_is_table) (fun _ _ _ _ _ _ us hl => match us, hl with | [_], _ => rfl)
  have c_need_dish : Cal P w K mg base 2 "need_dish" spNeedDish := A.d_need_dish.cal (fun f fd F => ok_need_dish F B G c_is_within) (fun _ _ _ _ _ _ us hl => match us, hl with | [_], _ => rfl)
  have c_need_seat : Cal P w K mg base 2 "need_seat" (spNeedSeat K) := A.d_need_seat.cal (fun f fd F => ok_need_seat F B c_is_within) (fun _ _ _ _ _ _ us hl => match us, hl with | [_, _], _ => rfl)
  have c_need_asked : Cal P w K mg base 5 "need_asked" (spNeedAsked K) := A.d_need_asked.cal (fun f fd F => ok_need_asked F B c_need_table c_need_dish) (fun _ _ _ _ _ _ us hl => match us, hl with | [_, _], _ => rfl)
  have m_would_take : Met P w K mg base 1 C "would_take" (spWould K C) := i_would_take.met T.cl (fun f fd F => ok_would F T) (fun _ _ _ _ _ _ us hl => match us, hl with | [_, _], _ => rfl)
  have m_visit : Met P w K mg base 2 C "visit" (spVisit K C) := i_visit.met T.cl (fun f fd F => ok_visit F T B m_would_take) (fun _ _ _ _ _ _ us hl => match us, hl with | [_], _ => rfl)
  have m_rounds : Met P w K mg base 1 C "rounds" (spRounds K C) := i_rounds.met T.cl (fun f fd F => ok_rounds F T B) (fun _ _ _ _ _ _ us hl => match us, hl with | [_, _, _], _ => rfl)
  have n_Going : Mak P w K mg base 1 "Going" C (spInit K C) := i_init.mak hC mkC kpC (fun f fd F => ok_init F T B) (fun _ _ _ _ _ _ us hl => match us, hl with | [_, _, _, _], _ => rfl)
  have m_go : Met P w K mg base 3 C "go" (spGo K C) := i_go.met T.cl (fun f fd F => ok_go F T B m_would_take m_rounds m_visit) (fun _ _ _ _ _ _ us hl => match us, hl with | [_, _], _ => rfl)
  have c_rested : Cal P w K mg base 4 "rested" (spRested K) := A.d_rested.cal (fun f fd F => ok_rested F T n_Going m_go) (fun _ _ _ _ _ _ us hl => match us, hl with | [_, _, _], _ => rfl)
  have c_law_cell_at : Cal P w K mg base 1 "_law_cell_at" (spCell K) := A.d_law_cell_at.cal (fun f fd F => ok_cell F B) (fun _ _ _ _ _ _ us hl => match us, hl with | [_, _], _ => rfl)
  have c_law_draws : Cal P w K mg base 1 "_law_draws" spDraws := A.d_law_draws.cal (fun f fd F => ok_draws F B) (fun _ _ _ _ _ _ us hl => match us, hl with | [_, _, _], _ => rfl)
  have c_law_bag : Cal P w K mg base 2 "_law_bag" (spBag K) := A.d_law_bag.cal (fun f fd F => ok_bag F c_law_cell_at c_law_draws) (fun _ _ _ _ _ _ us hl => match us, hl with | [_, _], _ => rfl)
  have c_law_bags : Cal P w K mg base 3 "_law_bags" (spBags K) := A.d_law_bags.cal (fun f fd F => ok_bags F B c_law_bag) (fun _ _ _ _ _ _ us hl => match us, hl with | [_, _], _ => rfl)
  have c_law_take : Cal P w K mg base 1 "_law_take" (spTake K) := A.d_law_take.cal (fun f fd F => ok_take F B) (fun _ _ _ _ _ _ us hl => match us, hl with | [_, _], _ => rfl)
  have c_law_far_draw : Cal P w K mg base 2 "_law_far_draw" (spFar K) := A.d_law_far_draw.cal (fun f fd F => ok_far F B c_law_take) (fun _ _ _ _ _ _ us hl => match us, hl with | [_, _], _ => rfl)
  have c_law_table : Cal P w K mg base 3 "_law_table" (spLawTable K) := A.d_law_table.cal (fun f fd F => ok_ltable F B c_law_take c_law_far_draw) (fun _ _ _ _ _ _ us hl => match us, hl with | [_, _, _], _ => rfl)
  have c_law_rest : Cal P w K mg base 1 "_law_rest" (spLawRest K) := A.d_law_rest.cal (fun f fd F => ok_lrest F B) (fun _ _ _ _ _ _ us hl => match us, hl with | [_, _, _], _ => rfl)
  have c_need_shares : Cal P w K mg base 2 "need_shares" (spNeedShares K) := A.d_need_shares.cal (fun f fd F => ok_need_shares F B G c_is_within) (fun _ _ _ _ _ _ us hl => match us, hl with | [_, _], _ => rfl)
  have c_with_guest : Cal P w K mg base 1 "with_guest" (spGuestIn K) := A.d_with_guest.cal (fun f fd F => ok_with_guest F) (fun _ _ _ _ _ _ us hl => match us, hl with | [_, _, _], _ => rfl)
  have c_need_seen : Cal P w K mg base 6 "need_seen" (spNeedSeen K) := A.d_need_seen.cal (fun f fd F => ok_need_seen F c_need_asked c_need_shares c_need_seat) (fun _ _ _ _ _ _ us hl => match us, hl with | [_, _, _, _, _], _ => rfl)
  have k_courtesies : CalK P w K mg base 8 4 "courtesies" (spCourt K [(P0, cName), (P1, eName)]) := A.d_courtesies.cal (fun f fd F => ok_courtesies F B G B0 I0 c_need_seen c_with_guest c_rested c_least_true) (by rfl) (fun _ _ _ _ _ _ us ks hl hk => match us, hl, ks, hk with | [_, _, _, _], _, [_], _ => ⟨_, _, _, _, _, _, rfl, rfl, rfl⟩) (fun _ _ _ _ _ _ us ks hl hk => match us, hl, ks, hk with | [_, _, _, _], _, [_], _ => rfl)
  have k_enoughs : CalK P w K mg base 8 4 "enoughs" (spEnough K [(P0, cName), (P1, eName)]) := A.d_enoughs.cal (fun f fd F => ok_enoughs F B G B1 I1 c_need_seen c_with_guest c_rested c_least_true) (by rfl) (fun _ _ _ _ _ _ us ks hl hk => match us, hl, ks, hk with | [_, _, _, _], _, [_], _ => ⟨_, _, _, _, _, _, rfl, rfl, rfl⟩) (fun _ _ _ _ _ _ us ks hl hk => match us, hl, ks, hk with | [_, _, _, _], _, [_], _ => rfl)
  have c_law_with : Cal P w K mg base 1 "_law_with" (spWith K) := A.d_law_with.cal (fun f fd F => ok_lwith F) (fun _ _ _ _ _ _ us hl => match us, hl with | [_, _, _], _ => rfl)
  have c_law_ends : Cal P w K mg base 1 "_law_ends" (spEnds K) := A.d_law_ends.cal (fun f fd F => ok_ends F) (fun _ _ _ _ _ _ us hl => match us, hl with | [_, _], _ => rfl)
  exact ok_law Fl B c_law_bags c_law_take c_law_table c_law_rest c_law_with c_law_ends k_courtesies k_enoughs
end Lp
namespace Lp
open PySem PySem.Spec PyProof.Rows L2 LamX NdefX
theorem law_end {l : PySem.W.OpenLaw} {w : World} {K : PySem.W.Frag} {mg : Str → Option Value} {fa : Addr} {h : Heap} {ts : List Addr} (KX : K.In h) (hmg : mg "law" = some (.ref fa)) (hT : ∀ P ∈ ts, h.get? P = some (PySem.W.tabObj #[])) (key : ∃ c0 c1 : Addr, Facts K mg c0 c1 ∧ PySem.W.codeHdIn K c0 203 = true ∧ K.lookup 203 = none ∧ PySem.W.codeHdIn K c1 211 = true ∧ K.lookup 211 = none) (m0 : 203 ∈ ts := by simp) (m1 : 211 ∈ ts := by simp) :
    LawAtS l w K L2.CX0 9 63 "script" mg fa h := by
  obtain ⟨c0, c1, A, hd0, nl0, hd1, nl1⟩ := key
  obtain ⟨fd, hb, hF⟩ := fin (P := l.prog) (w := w) hmg A
  refine ⟨fd, [(c0, 203), (c1, 211)], spLawT K [((203 : Addr), Lp.cName), ((211 : Addr), Lp.eName)], fun p hp => ?_, fun p hp => ?_, fun p hp => ?_, hb, fun H a ns hl _ hH hS => ⟨a, ns, rfl, hS, hl, fun p hp => ?_, fun _ => rfl⟩, fun base KB NB TB => hF base 203 211 (by decide) KB NB (TB (c0, 203) (by simp)) (TB (c1, 211) (by simp))⟩
  · simp only [List.mem_cons, List.not_mem_nil, or_false] at hp
    rcases hp with rfl | rfl
    · exact hT _ m0
    · exact hT _ m1
  · simp only [List.mem_cons, List.not_mem_nil, or_false] at hp
    rcases hp with rfl | rfl
    · exact nl0
    · exact nl1
  · simp only [List.mem_cons, List.not_mem_nil, or_false] at hp
    rcases hp with rfl | rfl
    · exact PySem.W.codeHd_of_K KX hd0
    · exact PySem.W.codeHd_of_K KX hd1
  · simp only [List.mem_cons, List.not_mem_nil, or_false] at hp
    rcases hp with rfl | rfl
    · exact TabN.nil (hH (c0, 203) (by simp))
    · exact TabN.nil (hH (c1, 211) (by simp))
end Lp
open PySem PySem.W PyProof.Rows
set_option maxHeartbeats 0 in
open_top head for PySem.Challenge.rw_lastpiece_k08_which_courtesies_and_enoug
set_option maxRecDepth 100000 in
set_option maxHeartbeats 0 in
theorem PySem.Challenge.cw_lastpiece_k08_which_courtesies_and_enoug_holds : PySem.Challenge.rw_lastpiece_k08_which_courtesies_and_enoug.Holds := by
  exact head (by
  k_fill
  refine LamX.walk_ofTs (n := 63) (k := 9) (x := "script") (CX := fun _ => L2.CX0) rfl (by decide) rfl ⟨rfl, by decide, by decide⟩ (fun w h Y => PySem.W.km_in_of Y) ?F fun _ _ _ _ _ z => z
  case F =>
    intro w mg fa h Y KX G hmg
    have hT := PySem.W.km_tabs_of Y
    refine Lp.law_end KX hmg hT ?key
    refine' ⟨?tc_c0, ?tc_c1, ⟨⟨PySem.W.mg_none_of KX G (by k_is), PySem.W.mg_none_of KX G (by k_is), PySem.W.mg_none_of KX G (by k_is), PySem.W.mg_none_of KX G (by k_is), PySem.W.mg_none_of KX G (by k_is), PySem.W.mg_none_of KX G (by k_is), PySem.W.mg_none_of KX G (by k_is), PySem.W.mg_none_of KX G (by k_is), PySem.W.mg_none_of KX G (by k_is), PySem.W.mg_none_of KX G (by k_is), PySem.W.mg_none_of KX G (by k_is), PySem.W.mg_none_of KX G (by k_is), PySem.W.mg_none_of KX G (by k_is), PySem.W.mg_none_of KX G (by k_is), PySem.W.mg_none_of KX G (by k_is), PySem.W.mg_none_of KX G (by k_is)⟩, ?_, ?_, ?_, ?_, ?_, ?_, ?_, ?_, ?_, ?_, ?_, ?_, ?_, ?_, ?_, ?_, ?_, ?_, ?_, ?_, ?_, ?_, ?_, ?_, ?_, ?_, ?_⟩, ?hd0, ?nl0, ?hd1, ?nl1⟩
    rotate_left 2
    · refine' ⟨_, PySem.W.mg_of KX G ?ag, ?rg⟩; (case ag => k_is); exact ⟨_, rfl⟩
    · refine' ⟨_, PySem.W.mg_of KX G ?a, ⟨L2.Cls.mk ?c1 ?c2 ?c3 ?c4, ?n1, ?n2, ?n3, ?n4, ?n5, ?n6⟩, ?mk, ?kc, Lp.methIn_mk ?a0 ?l0 ?i0 ?c0_ ?k0, Lp.methIn_mk ?a1 ?l1 ?i1 ?c1_ ?k1, Lp.methIn_mk ?a2 ?l2 ?i2 ?c2_ ?k2, Lp.methIn_mk ?a3 ?l3 ?i3 ?c3_ ?k3, Lp.methIn_mk ?a4 ?l4 ?i4 ?c4_ ?k4⟩; (case a => k_is)
      (case a0 => k_is)
      (case l0 => k_is)
      (case i0 => k_is)
      (case c0_ => k_is)
      (case k0 => k_is)
      (case a1 => k_is)
      (case l1 => k_is)
      (case i1 => k_is)
      (case c1_ => k_is)
      (case k1 => k_is)
      (case a2 => k_is)
      (case l2 => k_is)
      (case i2 => k_is)
      (case c2_ => k_is)
      (case k2 => k_is)
      (case a3 => k_is)
      (case l3 => k_is)
      (case i3 => k_is)
      (case c3_ => k_is)
      (case k3 => k_is)
      (case a4 => k_is)
      (case l4 => k_is)
      (case i4 => k_is)
      (case c4_ => k_is)
      (case k4 => k_is)
      (case c1 => k_is)
      (case c2 => k_is)
      (case c3 => k_is)
      (case c4 => k_is)
      (case n1 => show PySem.W.findIn _ _ _ = _; k_is)
      (case n2 => show PySem.W.findIn _ _ _ = _; k_is)
      (case n3 => show PySem.W.findIn _ _ _ = _; k_is)
      (case n4 => show PySem.W.findIn _ _ _ = _; k_is)
      (case n5 => show PySem.W.findIn _ _ _ = _; k_is)
      (case n6 => show PySem.W.findIn _ _ _ = _; k_is)
      (case mk => k_is)
      (case kc => k_is)
    · refine' Lp.defIn_mk KX G ?a_lt ?l_lt ?c_lt ?k_lt; (case a_lt => k_is); (case l_lt => k_is); (case c_lt => k_is); (case k_lt => k_is)
    · refine' Lp.defIn_mk KX G ?a_0 ?l_0 ?c_0 ?k_0; (case a_0 => k_is); (case l_0 => k_is); (case c_0 => k_is); (case k_0 => k_is)
    · refine' Lp.defIn_mk KX G ?a_1 ?l_1 ?c_1 ?k_1; (case a_1 => k_is); (case l_1 => k_is); (case c_1 => k_is); (case k_1 => k_is)
    · refine' Lp.defIn_mk KX G ?a_2 ?l_2 ?c_2 ?k_2; (case a_2 => k_is); (case l_2 => k_is); (case c_2 => k_is); (case k_2 => k_is)
    · refine' Lp.defIn_mk KX G ?a_3 ?l_3 ?c_3 ?k_3; (case a_3 => k_is); (case l_3 => k_is); (case c_3 => k_is); (case k_3 => k_is)
    · refine' Lp.defIn_mk KX G ?a_4 ?l_4 ?c_4 ?k_4; (case a_4 => k_is); (case l_4 => k_is); (case c_4 => k_is); (case k_4 => k_is)
    · refine' Lp.defIn_mk KX G ?a_5 ?l_5 ?c_5 ?k_5; (case a_5 => k_is); (case l_5 => k_is); (case c_5 => k_is); (case k_5 => k_is)
    · refine' Lp.defIn_mk KX G ?a_6 ?l_6 ?c_6 ?k_6; (case a_6 => k_is); (case l_6 => k_is); (case c_6 => k_is); (case k_6 => k_is)
    · refine' Lp.defIn_mk KX G ?a_12 ?l_12 ?c_12 ?k_12; (case a_12 => k_is); (case l_12 => k_is); (case c_12 => k_is); (case k_12 => k_is)
    · refine' Lp.defIn_mk KX G ?a_13 ?l_13 ?c_13 ?k_13; (case a_13 => k_is); (case l_13 => k_is); (case c_13 => k_is); (case k_13 => k_is)
    · refine' Lp.defIn_mk KX G ?a_14 ?l_14 ?c_14 ?k_14; (case a_14 => k_is); (case l_14 => k_is); (case c_14 => k_is); (case k_14 => k_is)
    · refine' Lp.defIn_mk KX G ?a_15 ?l_15 ?c_15 ?k_15; (case a_15 => k_is); (case l_15 => k_is); (case c_15 => k_is); (case k_15 => k_is)
    · refine' Lp.defIn_mk KX G ?a_16 ?l_16 ?c_16 ?k_16; (case a_16 => k_is); (case l_16 => k_is); (case c_16 => k_is); (case k_16 => k_is)
    · refine' Lp.defIn_mk KX G ?a_17 ?l_17 ?c_17 ?k_17; (case a_17 => k_is); (case l_17 => k_is); (case c_17 => k_is); (case k_17 => k_is)
    · refine' Lp.defIn_mk KX G ?a_18 ?l_18 ?c_18 ?k_18; (case a_18 => k_is); (case l_18 => k_is); (case c_18 => k_is); (case k_18 => k_is)
    · refine' Lp.defIn_mk KX G ?a_19 ?l_19 ?c_19 ?k_19; (case a_19 => k_is); (case l_19 => k_is); (case c_19 => k_is); (case k_19 => k_is)
    · refine' Lp.defIn_mk KX G ?a_20 ?l_20 ?c_20 ?k_20; (case a_20 => k_is); (case l_20 => k_is); (case c_20 => k_is); (case k_20 => k_is)
    · refine' Lp.defIn_mk KX G ?a_21 ?l_21 ?c_21 ?k_21; (case a_21 => k_is); (case l_21 => k_is); (case c_21 => k_is); (case k_21 => k_is)
    · refine' Lp.defIn_mk KX G ?a_22 ?l_22 ?c_22 ?k_22; (case a_22 => k_is); (case l_22 => k_is); (case c_22 => k_is); (case k_22 => k_is)
    · refine' Lp.defIn_mk KX G ?a_23 ?l_23 ?c_23 ?k_23; (case a_23 => k_is); (case l_23 => k_is); (case c_23 => k_is); (case k_23 => k_is)
    · refine' Lp.defKwC_mk KX G ?a_24 ?l_24 ?d_24 ?r_24 ?c_24 ?k_24; (case a_24 => k_is); (case l_24 => k_is); (case d_24 => k_is); (case r_24 => exact ⟨_, rfl⟩); (case c_24 => k_is); (case k_24 => k_is)
    · refine' Lp.defKwC_mk KX G ?a_25 ?l_25 ?d_25 ?r_25 ?c_25 ?k_25; (case a_25 => k_is); (case l_25 => k_is); (case d_25 => k_is); (case r_25 => exact ⟨_, rfl⟩); (case c_25 => k_is); (case k_25 => k_is)
    · refine' Lp.defIn_mk KX G ?a_26 ?l_26 ?c_26 ?k_26; (case a_26 => k_is); (case l_26 => k_is); (case c_26 => k_is); (case k_26 => k_is)
    · refine' Lp.defIn_mk KX G ?a_27 ?l_27 ?c_27 ?k_27; (case a_27 => k_is); (case l_27 => k_is); (case c_27 => k_is); (case k_27 => k_is)
    · refine' Lp.defIn_mk KX G ?a_28 ?l_28 ?c_28 ?k_28; (case a_28 => k_is); (case l_28 => k_is); (case c_28 => k_is); (case k_28 => k_is)
    · kernel_rfl
    · kernel_rfl
    · kernel_rfl
    · kernel_rfl)
