import PyProof.Rows.All
import Wide.All
import OpenK.AllK
import Wide.FinOn
import HandS.ForMost
import HandS.IsInst
import HandS.Codes
import HandS.Defaults
import HandS.Conv
import HandS.Walk
import HandS.Nested
import HandS.Zip
import HandS.EndTab
import KE.KNestM
import HandS.TupAny
import HandS.TupMul
import HandS.HotCalls
import HandS.ExcIs
import HandS.ExcOwn
import HandS.WordsExc
import HandS.Flow
import PySem.Challenge.RW_lastpiece_k14_who_is_refused
set_option Elab.async false
set_option linter.all false
set_option maxRecDepth 100000
set_option maxHeartbeats 4000000
/-! The dish, piece by piece, in plain Lean. -/
namespace D
/-- guests: courtesy and enough -/
abbrev Gs := Nat → Int × Option Int
/-- what lies on the dish, what each has -/
structure S where
  left : Int
  had : Nat → Int
def wants (g : Gs) (s : S) (i : Nat) : Prop := (g i).1 < s.left ∧ ∀ m, (g i).2 = some m → s.had i < m
instance (g : Gs) (s : S) (i : Nat) : Decidable (wants g s i) :=
  match h : (g i).2 with
  | none => if h1 : (g i).1 < s.left then .isTrue ⟨h1, fun m e => by rw [h] at e; cases e⟩ else .isFalse fun z => h1 z.1
  | some m => if h1 : (g i).1 < s.left ∧ s.had i < m then .isTrue ⟨h1.1, fun m' e => by rw [h] at e; cases e; exact h1.2⟩ else .isFalse fun z => h1 ⟨z.1, z.2 m h⟩
def bump (h : Nat → Int) (i : Nat) : Nat → Int := fun j => if j = i then h j + 1 else h j
theorem bump_self (h : Nat → Int) (i : Nat) : bump h i i = h i + 1 := by simp [bump]
theorem bump_ne (h : Nat → Int) {i j : Nat} (e : j ≠ i) : bump h i j = h j := by simp [bump, e]
def vis (g : Gs) (s : S) (i : Nat) : S := if wants g s i then ⟨s.left - 1, bump s.had i⟩ else s
theorem vis_yes {g : Gs} {s : S} {i : Nat} (h : wants g s i) : vis g s i = ⟨s.left - 1, bump s.had i⟩ := if_pos h
theorem vis_no {g : Gs} {s : S} {i : Nat} (h : ¬ wants g s i) : vis g s i = s := if_neg h
/-- behind k visits -/
def run (g : Gs) (n f : Nat) (d : Int) : Nat → S
  | 0 => ⟨d, fun _ => 0⟩
  | k + 1 => vis g (run g n f d k) ((f + k) % n)
def Quiet (g : Gs) (n : Nat) (s : S) : Prop := ∀ i, i < n → ¬ wants g s i
section
variable {g : Gs} {n f : Nat} {d : Int}
theorem run_succ (k : Nat) : run g n f d (k + 1) = vis g (run g n f d k) ((f + k) % n) := rfl
theorem vis_left (s : S) (i : Nat) : (vis g s i).left ≤ s.left ∧ s.left - 1 ≤ (vis g s i).left := by
  unfold vis; split <;> simp <;> omega
theorem vis_had (s : S) (i j : Nat) : s.had j ≤ (vis g s i).had j := by
  unfold vis bump; split
  · simp only; split <;> omega
  · omega
/-- who would not take never takes again -/
theorem no_stays {s : S} {i : Nat} (j : Nat) (h : ¬ wants g s i) : ¬ wants g (vis g s j) i := by
  intro z
  apply h
  have h1 := vis_left (g := g) s j
  have h2 := vis_had (g := g) s j i
  exact ⟨by have := z.1; omega, fun m e => by have := z.2 m e; omega⟩
theorem run_left_le (k m : Nat) : (run g n f d (k + m)).left ≤ (run g n f d k).left := by
  induction m with
  | zero => exact Int.le_refl _
  | succ m ih =>
    have := vis_left (g := g) (run g n f d (k + m)) ((f + (k + m)) % n)
    rw [← Nat.add_assoc, run_succ]
    omega
theorem run_left_ge (k m : Nat) : (run g n f d k).left - m ≤ (run g n f d (k + m)).left := by
  induction m with
  | zero => simp
  | succ m ih =>
    have := vis_left (g := g) (run g n f d (k + m)) ((f + (k + m)) % n)
    rw [← Nat.add_assoc, run_succ]
    omega
theorem run_had_le (k m : Nat) (j : Nat) : (run g n f d k).had j ≤ (run g n f d (k + m)).had j := by
  induction m with
  | zero => exact Int.le_refl _
  | succ m ih =>
    have := vis_had (g := g) (run g n f d (k + m)) ((f + (k + m)) % n) j
    rw [← Nat.add_assoc, run_succ]
    omega
theorem had_nonneg (k j : Nat) : 0 ≤ (run g n f d k).had j := by
  have := run_had_le (g := g) (n := n) (f := f) (d := d) 0 k j
  rw [Nat.zero_add] at this
  exact this
theorem left_le (k : Nat) : (run g n f d k).left ≤ d := by
  have := run_left_le (g := g) (n := n) (f := f) (d := d) 0 k
  rw [Nat.zero_add] at this
  exact this
theorem no_stays_run {k i : Nat} (m : Nat) (h : ¬ wants g (run g n f d k) i) : ¬ wants g (run g n f d (k + m)) i := by
  induction m with
  | zero => exact h
  | succ m ih => exact no_stays _ ih
theorem quiet_stays {k : Nat} (hn : 0 < n) (h : Quiet g n (run g n f d k)) (m : Nat) : run g n f d (k + m) = run g n f d k := by
  induction m with
  | zero => rfl
  | succ m ih =>
    rw [← Nat.add_assoc, run_succ, ih]
    exact vis_no (h _ (Nat.mod_lt _ hn))
/-- each seat is met within a round -/
theorem met (hn : 0 < n) (k i : Nat) (hi : i < n) : ∃ j, j < n ∧ (f + (k + j)) % n = i := by
  refine ⟨(i + n - (f + k) % n) % n, Nat.mod_lt _ hn, ?_⟩
  have h1 : (f + k) % n < n := Nat.mod_lt _ hn
  rw [← Nat.add_assoc, Nat.add_mod_mod, ← Nat.mod_add_mod]
  have e2 : (f + k) % n + (i + n - (f + k) % n) = i + n := by omega
  rw [e2, Nat.add_mod_right, Nat.mod_eq_of_lt hi]
/-- no piece taken: nothing changed -/
theorem same_of_left {k m : Nat} (h : (run g n f d (k + m)).left = (run g n f d k).left) : run g n f d (k + m) = run g n f d k := by
  induction m with
  | zero => rfl
  | succ m ih =>
    have h1 := run_left_le (g := g) (n := n) (f := f) (d := d) k m
    have h2 := vis_left (g := g) (run g n f d (k + m)) ((f + (k + m)) % n)
    rw [← Nat.add_assoc, run_succ] at h
    have h3 : (run g n f d (k + m)).left = (run g n f d k).left := by omega
    have ih' := ih h3
    rw [← Nat.add_assoc, run_succ]
    by_cases w : wants g (run g n f d (k + m)) ((f + (k + m)) % n)
    · rw [vis_yes w] at h
      simp only at h
      omega
    · rw [vis_no w, ih']
theorem progress (hn : 0 < n) {k : Nat} (h : ¬ Quiet g n (run g n f d k)) : (run g n f d (k + n)).left < (run g n f d k).left := by
  apply Classical.byContradiction
  intro hh
  have hle := run_left_le (g := g) (n := n) (f := f) (d := d) k n
  have e : (run g n f d (k + n)).left = (run g n f d k).left := by omega
  apply h
  intro i hi w
  obtain ⟨j, hj, ej⟩ := met (f := f) hn k i hi
  have b1 := run_left_le (g := g) (n := n) (f := f) (d := d) k j
  have b2 := run_left_le (g := g) (n := n) (f := f) (d := d) (k + (j + 1)) (n - (j + 1))
  have e3 : k + (j + 1) + (n - (j + 1)) = k + n := by omega
  rw [e3] at b2
  have b3 := run_left_le (g := g) (n := n) (f := f) (d := d) (k + j) 1
  have b4 : (k + j) + 1 = k + (j + 1) := by omega
  rw [b4] at b3
  have s1 : run g n f d (k + j) = run g n f d k := same_of_left (by omega)
  have s2 : run g n f d (k + (j + 1)) = vis g (run g n f d (k + j)) ((f + (k + j)) % n) := rfl
  rw [s1, ej, vis_yes w] at s2
  have : (run g n f d (k + (j + 1))).left = (run g n f d k).left - 1 := by rw [s2]
  omega

/-! ### sums -/
def total : Nat → (Nat → Int) → Int
  | 0, _ => 0
  | n + 1, h => total n h + h n
theorem total_bump_out : ∀ (n : Nat) (h : Nat → Int) (i : Nat), n ≤ i → total n (bump h i) = total n h
  | 0, _, _, _ => rfl
  | n + 1, h, i, e => by
    show total n (bump h i) + bump h i n = total n h + h n
    rw [total_bump_out n h i (by omega), bump_ne h (by omega)]
theorem total_bump : ∀ (n : Nat) (h : Nat → Int) (i : Nat), i < n → total n (bump h i) = total n h + 1
  | 0, _, i, e => by omega
  | n + 1, h, i, e => by
    show total n (bump h i) + bump h i n = total n h + h n + 1
    by_cases q : i = n
    · subst q
      rw [total_bump_out _ _ _ (Nat.le_refl _), bump_self]; omega
    · rw [total_bump n h i (by omega), bump_ne h (by omega)]; omega
theorem total_zero : ∀ n : Nat, total n (fun _ => 0) = 0
  | 0 => rfl
  | n + 1 => by show total n _ + 0 = 0; rw [total_zero n]; rfl
theorem total_congr : ∀ {n : Nat} {h h' : Nat → Int}, (∀ i, i < n → h i = h' i) → total n h = total n h'
  | 0, _, _, _ => rfl
  | n + 1, h, h', e => by
    show total n h + h n = total n h' + h' n
    rw [total_congr fun i hi => e i (by omega), e n (by omega)]
theorem total_le : ∀ {n : Nat} {h h' : Nat → Int}, (∀ i, i < n → h i ≤ h' i) → total n h ≤ total n h'
  | 0, _, _, _ => Int.le_refl _
  | n + 1, h, h', e => by
    show total n h + h n ≤ total n h' + h' n
    have h1 := total_le (n := n) fun i hi => e i (by omega)
    have h2 := e n (by omega)
    omega
theorem run_sum (hn : 0 < n) (k : Nat) : total n (run g n f d k).had + (run g n f d k).left = d := by
  induction k with
  | zero => show total n (fun _ => 0) + d = d; rw [total_zero]; omega
  | succ k ih =>
    rw [run_succ]
    by_cases w : wants g (run g n f d k) ((f + k) % n)
    · rw [vis_yes w]
      show total n (bump _ _) + ((run g n f d k).left - 1) = d
      rw [total_bump n _ _ (Nat.mod_lt _ hn)]; omega
    · rw [vis_no w]; exact ih
/-! ### the rest -/
theorem left_nonneg (hn : 0 < n) (hc : ∀ i, i < n → 0 ≤ (g i).1) (hd : 0 ≤ d) (k : Nat) : 0 ≤ (run g n f d k).left := by
  induction k with
  | zero => exact hd
  | succ k ih =>
    rw [run_succ]
    by_cases w : wants g (run g n f d k) ((f + k) % n)
    · rw [vis_yes w]
      have := w.1
      have := hc _ (Nat.mod_lt (f + k) hn)
      show 0 ≤ (run g n f d k).left - 1
      omega
    · rw [vis_no w]; exact ih
instance quietDec (g : Gs) : (n : Nat) → (s : S) → Decidable (Quiet g n s)
  | 0, _ => .isTrue fun i hi => absurd hi (Nat.not_lt_zero _)
  | n + 1, s =>
    match quietDec g n s with
    | .isFalse h => .isFalse fun q => h fun i hi => q i (Nat.lt_succ_of_lt hi)
    | .isTrue h => if w : wants g s n then .isFalse fun q => q n (Nat.lt_succ_self n) w else .isTrue fun i hi => by
        by_cases e : i = n
        · rw [e]; exact w
        · exact h i (by omega)
theorem quiet_by (hn : 0 < n) (m : Nat) : Quiet g n (run g n f d (n * m)) ∨ (run g n f d (n * m)).left + m ≤ d := by
  induction m with
  | zero => right; show d + 0 ≤ d; omega
  | succ m ih =>
    rcases ih with q | q
    · left
      have := quiet_stays hn q n
      rw [Nat.mul_succ, this]; exact q
    · by_cases z : Quiet g n (run g n f d (n * m))
      · left
        have := quiet_stays hn z n
        rw [Nat.mul_succ, this]; exact z
      · right
        have := progress hn z
        rw [Nat.mul_succ]
        omega
/-- the number of visits by which it rests surely -/
def enoughVisits (n : Nat) (d : Int) : Nat := n * (d.toNat + 1)
def fin (g : Gs) (n f : Nat) (d : Int) : S := run g n f d (enoughVisits n d)
theorem fin_quiet (hn : 0 < n) (hc : ∀ i, i < n → 0 ≤ (g i).1) (hd : 0 ≤ d) : Quiet g n (fin g n f d) := by
  rcases quiet_by (g := g) (f := f) (d := d) hn (d.toNat + 1) with q | q
  · exact q
  · have := left_nonneg (f := f) hn hc hd (n * (d.toNat + 1))
    omega
theorem fin_of {k : Nat} (hn : 0 < n) (hc : ∀ i, i < n → 0 ≤ (g i).1) (hd : 0 ≤ d) (q : Quiet g n (run g n f d k)) : run g n f d k = fin g n f d := by
  have q2 := fin_quiet (f := f) hn hc hd
  unfold fin at q2 ⊢
  have e1 := quiet_stays hn q (enoughVisits n d)
  have e2 := quiet_stays hn q2 k
  rw [← e1, ← e2, Nat.add_comm]
theorem fin_eq (hn : 0 < n) (hc : ∀ i, i < n → 0 ≤ (g i).1) (hd : 0 ≤ d) {k : Nat} (hk : enoughVisits n d ≤ k) : run g n f d k = fin g n f d := by
  have q2 := fin_quiet (f := f) hn hc hd
  unfold fin at q2 ⊢
  obtain ⟨m, rfl⟩ : ∃ m, k = enoughVisits n d + m := ⟨k - enoughVisits n d, by omega⟩
  exact quiet_stays hn q2 m
end

/-! ### one piece more -/
section
variable {g : Gs} {n f : Nat} {d : Int}
/-- the run of d beside that of d + 1 -/
inductive Beside (g : Gs) (n : Nat) (s s' : S) : Prop
  | none (h1 : s'.left = s.left + 1) (h2 : s'.had = s.had)
  | some (i : Nat) (hi : i < n) (h1 : s'.left = s.left) (h2 : s'.had = bump s.had i) (h3 : s.left ≤ (g i).1)
theorem vis_beside {s s' : S} (h : Beside g n s s') (j : Nat) (hj : j < n) : Beside g n (vis g s j) (vis g s' j) := by
  rcases h with ⟨h1, h2⟩ | ⟨i, hi, h1, h2, h3⟩
  · by_cases w : wants g s j
    · have w' : wants g s' j := ⟨by have := w.1; omega, by rw [h2]; exact w.2⟩
      rw [vis_yes w, vis_yes w']
      exact .none (by simp only; omega) (by simp only; rw [h2])
    · rw [vis_no w]
      by_cases w' : wants g s' j
      · rw [vis_yes w']
        refine .some j hj (by simp only; omega) (by simp only; rw [h2]) ?_
        apply Classical.byContradiction
        intro z
        exact w ⟨by omega, by rw [← h2]; exact w'.2⟩
      · rw [vis_no w']
        exact .none h1 h2
  · by_cases e : j = i
    · subst e
      have w : ¬ wants g s j := fun z => by have := z.1; omega
      have w' : ¬ wants g s' j := fun z => by have := z.1; omega
      rw [vis_no w, vis_no w']
      exact .some j hi h1 h2 h3
    · have ej : s'.had j = s.had j := by rw [h2, bump_ne _ e]
      by_cases w : wants g s j
      · have w' : wants g s' j := ⟨by have := w.1; omega, by rw [ej]; exact w.2⟩
        rw [vis_yes w, vis_yes w']
        refine .some i hi (by simp only; omega) ?_ (by simp only; omega)
        simp only
        rw [h2]
        funext x
        unfold bump
        split <;> split <;> rfl
      · have w' : ¬ wants g s' j := fun z => w ⟨by have := z.1; omega, by rw [← ej]; exact z.2⟩
        rw [vis_no w, vis_no w']
        exact .some i hi h1 h2 h3
theorem run_beside (hn : 0 < n) (k : Nat) : Beside g n (run g n f d k) (run g n f (d + 1) k) := by
  induction k with
  | zero => exact .none rfl rfl
  | succ k ih => exact vis_beside ih _ (Nat.mod_lt _ hn)
/-- who has one more -/
theorem fin_beside (hn : 0 < n) (hc : ∀ i, i < n → 0 ≤ (g i).1) (hd : 0 ≤ d) : Beside g n (fin g n f d) (fin g n f (d + 1)) := by
  have h := run_beside (g := g) (f := f) (d := d) hn (enoughVisits n d + enoughVisits n (d + 1))
  rw [fin_eq hn hc hd (by omega), fin_eq hn hc (by omega) (by omega)] at h
  exact h
end
/-! ### whole rounds -/
section
variable {g : Gs} {n f : Nat} {d : Int}
/-- how many of the n fulfil A -/
def many (n : Nat) (A : Nat → Prop) [∀ i, Decidable (A i)] : Int := total n fun i => if A i then 1 else 0
theorem total_add : ∀ (n : Nat) (h h' : Nat → Int), total n (fun i => h i + h' i) = total n h + total n h'
  | 0, _, _ => rfl
  | n + 1, h, h' => by
    show total n _ + (h n + h' n) = (total n h + h n) + (total n h' + h' n)
    rw [total_add n h h']; omega
theorem total_mul : ∀ (n : Nat) (m : Int) (h : Nat → Int), total n (fun i => m * h i) = m * total n h
  | 0, m, _ => (Int.mul_zero m).symm
  | n + 1, m, h => by
    show total n _ + m * h n = m * (total n h + h n)
    rw [total_mul n m h, Int.mul_add]
theorem total_lt {n : Nat} {h h' : Nat → Int} (e : ∀ i, i < n → h i ≤ h' i) {j : Nat} (hj : j < n) (l : h j < h' j) : total n h < total n h' := by
  have h1 : total n (bump h j) ≤ total n h' := total_le fun i hi => by
    by_cases q : i = j
    · rw [q, bump_self]; omega
    · rw [bump_ne h q]; exact e i hi
  rw [total_bump n h j hj] at h1
  omega
theorem total_nonneg : ∀ {n : Nat} {h : Nat → Int}, (∀ i, i < n → 0 ≤ h i) → 0 ≤ total n h
  | 0, _, _ => Int.le_refl _
  | n + 1, h, e => by
    show 0 ≤ total n h + h n
    have h1 := total_nonneg (n := n) fun i hi => e i (by omega)
    have h2 := e n (by omega)
    omega
theorem seat_inj {a i j : Nat} (hij : i < j) (hj : j < n) (e : (a + i) % n = (a + j) % n) : False := by
  have h1 : (a + j - (a + i)) % n = 0 := Nat.sub_mod_eq_zero_of_mod_eq e.symm
  have h2 : a + j - (a + i) = j - i := by omega
  rw [h2, Nat.mod_eq_of_lt (by omega)] at h1
  omega
/-- one round in which all who want one take one -/
theorem one_round {k : Nat} (hn : 0 < n) (hc : ∀ i, i < n → wants g (run g n f d k) i → (g i).1 ≤ (run g n f d k).left - many n (wants g (run g n f d k))) :
    (∀ i, i < n → (run g n f d (k + n)).had i = (run g n f d k).had i + if wants g (run g n f d k) i then 1 else 0) ∧
    (run g n f d (k + n)).left = (run g n f d k).left - many n (wants g (run g n f d k)) := by
  have inv : ∀ j, j ≤ n → ∀ i, i < n → (((∃ j', j' < j ∧ (f + (k + j')) % n = i) → (run g n f d (k + j)).had i = (run g n f d k).had i + if wants g (run g n f d k) i then 1 else 0) ∧
      ((¬ ∃ j', j' < j ∧ (f + (k + j')) % n = i) → (run g n f d (k + j)).had i = (run g n f d k).had i)) := by
    intro j
    induction j with
    | zero => exact fun _ i _ => ⟨fun ⟨j', h, _⟩ => absurd h (Nat.not_lt_zero _), fun _ => rfl⟩
    | succ j ih =>
      intro hj i hi
      have ih := ih (by omega)
      have hs : (f + (k + j)) % n < n := Nat.mod_lt _ hn
      have fresh : ¬ ∃ j', j' < j ∧ (f + (k + j')) % n = (f + (k + j)) % n := fun ⟨j', h1, h2⟩ => seat_inj (n := n) (a := f + k) h1 (by omega) (by rw [Nat.add_assoc, Nat.add_assoc]; exact h2)
      have e0 := (ih _ hs).2 fresh
      have le1 : ∀ x, x < n → (run g n f d (k + j)).had x ≤ (run g n f d k).had x + if wants g (run g n f d k) x then 1 else 0 := fun x hx => by
        by_cases q : ∃ j', j' < j ∧ (f + (k + j')) % n = x
        · rw [(ih x hx).1 q]; exact Int.le_refl _
        · rw [(ih x hx).2 q]; split <;> omega
      have st : run g n f d (k + (j + 1)) = vis g (run g n f d (k + j)) ((f + (k + j)) % n) := rfl
      rw [st]
      by_cases w : wants g (run g n f d k) ((f + (k + j)) % n)
      · have lf : (g ((f + (k + j)) % n)).1 < (run g n f d (k + j)).left := by
          have s1 := run_sum (g := g) (f := f) (d := d) hn k
          have s2 := run_sum (g := g) (f := f) (d := d) hn (k + j)
          have h1 := total_lt (h := (run g n f d (k + j)).had) (h' := fun x => (run g n f d k).had x + if wants g (run g n f d k) x then 1 else 0) le1 hs (by rw [e0, if_pos w]; omega)
          rw [total_add] at h1
          have h2 := hc _ hs w
          have h3 : total n (fun x => if wants g (run g n f d k) x then (1 : Int) else 0) = many n (wants g (run g n f d k)) := rfl
          omega
        have w' : wants g (run g n f d (k + j)) ((f + (k + j)) % n) := ⟨lf, fun m e => by rw [e0]; exact w.2 m e⟩
        rw [vis_yes w']
        by_cases q : i = (f + (k + j)) % n
        · refine ⟨fun _ => ?_, fun h => absurd ⟨j, Nat.lt_succ_self j, q.symm⟩ h⟩
          show bump _ _ i = _
          rw [q, bump_self, e0, if_pos w]
        · refine ⟨fun ⟨j', h1, h2⟩ => ?_, fun h => ?_⟩
          · show bump _ _ i = _
            rw [bump_ne _ q]
            refine (ih i hi).1 ⟨j', ?_, h2⟩
            by_cases z : j' = j
            · rw [z] at h2; exact absurd h2.symm q
            · omega
          · show bump _ _ i = _
            rw [bump_ne _ q]
            exact (ih i hi).2 fun ⟨j', h1, h2⟩ => h ⟨j', by omega, h2⟩
      · have w' : ¬ wants g (run g n f d (k + j)) ((f + (k + j)) % n) := no_stays_run j w
        rw [vis_no w']
        refine ⟨fun ⟨j', h1, h2⟩ => ?_, fun h => ?_⟩
        · by_cases z : j' = j
          · rw [z] at h2
            rw [← h2, e0, if_neg w]; omega
          · exact (ih i hi).1 ⟨j', by omega, h2⟩
        · exact (ih i hi).2 fun ⟨j', h1, h2⟩ => h ⟨j', by omega, h2⟩
  have hh : ∀ i, i < n → (run g n f d (k + n)).had i = (run g n f d k).had i + if wants g (run g n f d k) i then 1 else 0 := fun i hi => by
    obtain ⟨j, hj, e⟩ := met (f := f) hn k i hi
    exact (inv n (Nat.le_refl _) i hi).1 ⟨j, hj, e⟩
  refine ⟨hh, ?_⟩
  have s1 := run_sum (g := g) (f := f) (d := d) hn k
  have s2 := run_sum (g := g) (f := f) (d := d) hn (k + n)
  rw [total_congr hh, total_add] at s2
  have h3 : total n (fun x => if wants g (run g n f d k) x then (1 : Int) else 0) = many n (wants g (run g n f d k)) := rfl
  omega
theorem many_congr {n : Nat} {A B : Nat → Prop} [∀ i, Decidable (A i)] [∀ i, Decidable (B i)] (h : ∀ i, i < n → (A i ↔ B i)) : many n A = many n B :=
  total_congr fun i hi => by
    by_cases a : A i
    · rw [if_pos a, if_pos ((h i hi).mp a)]
    · rw [if_neg a, if_neg fun b => a ((h i hi).mpr b)]
theorem many_nonneg {n : Nat} {A : Nat → Prop} [∀ i, Decidable (A i)] : 0 ≤ many n A := total_nonneg fun i _ => by split <;> omega
theorem many_pos {n : Nat} {A : Nat → Prop} [∀ i, Decidable (A i)] {i : Nat} (hi : i < n) (h : A i) : 1 ≤ many n A := by
  have := total_lt (n := n) (h := fun _ => 0) (h' := fun i => if A i then 1 else 0) (fun i _ => by split <;> omega) hi (by rw [if_pos h]; omega)
  rw [total_zero] at this
  exact this
/-- m rounds in which just those who want one now take one each -/
theorem skip {k : Nat} (hn : 0 < n) (m : Nat)
    (hc : ∀ i, i < n → wants g (run g n f d k) i → (g i).1 ≤ (run g n f d k).left - m * many n (wants g (run g n f d k)))
    (he : ∀ i, i < n → wants g (run g n f d k) i → ∀ e, (g i).2 = some e → (run g n f d k).had i + m ≤ e) :
    (∀ i, i < n → (run g n f d (k + m * n)).had i = (run g n f d k).had i + if wants g (run g n f d k) i then (m : Int) else 0) ∧
    (run g n f d (k + m * n)).left = (run g n f d k).left - m * many n (wants g (run g n f d k)) := by
  have go : ∀ r, r ≤ m → (∀ i, i < n → (run g n f d (k + r * n)).had i = (run g n f d k).had i + if wants g (run g n f d k) i then (r : Int) else 0) ∧
      (run g n f d (k + r * n)).left = (run g n f d k).left - r * many n (wants g (run g n f d k)) := by
    intro r
    induction r with
    | zero =>
      intro _
      refine ⟨fun i _ => ?_, ?_⟩
      · rw [Nat.zero_mul, Nat.add_zero]; split <;> simp
      · rw [Nat.zero_mul, Nat.add_zero]; simp
    | succ r ih =>
      intro hr
      obtain ⟨ih1, ih2⟩ := ih (by omega)
      have hN := many_nonneg (n := n) (A := wants g (run g n f d k))
      have same : ∀ i, i < n → (wants g (run g n f d (k + r * n)) i ↔ wants g (run g n f d k) i) := fun i hi => by
        refine ⟨fun w => Classical.byContradiction fun z => no_stays_run (r * n) z w, fun w => ?_⟩
        have h1 := hc i hi w
        have h2 := many_pos hi w
        have h3 : ((r : Int) + 1) * many n (wants g (run g n f d k)) ≤ (m : Int) * many n (wants g (run g n f d k)) := Int.mul_le_mul_of_nonneg_right (by omega) hN
        rw [Int.add_mul, Int.one_mul] at h3
        refine ⟨by rw [ih2]; omega, fun e ee => ?_⟩
        rw [ih1 i hi, if_pos w]
        have := he i hi w e ee
        omega
      have mm := many_congr (A := wants g (run g n f d (k + r * n))) (B := wants g (run g n f d k)) same
      have o := one_round (g := g) (f := f) (d := d) (k := k + r * n) hn (fun i hi w => by
        have w0 := (same i hi).mp w
        have h1 := hc i hi w0
        have h3 : ((r : Int) + 1) * many n (wants g (run g n f d k)) ≤ (m : Int) * many n (wants g (run g n f d k)) := Int.mul_le_mul_of_nonneg_right (by omega) hN
        rw [Int.add_mul, Int.one_mul] at h3
        rw [mm, ih2]
        omega)
      have ek : k + (r + 1) * n = k + r * n + n := by rw [Nat.succ_mul, Nat.add_assoc]
      rw [ek]
      refine ⟨fun i hi => ?_, ?_⟩
      · rw [o.1 i hi, ih1 i hi]
        by_cases w : wants g (run g n f d k) i
        · rw [if_pos w, if_pos w, if_pos ((same i hi).mpr w)]
          push_cast
          omega
        · rw [if_neg w, if_neg w, if_neg fun z => w ((same i hi).mp z)]; omega
      · rw [o.2, mm, ih2]
        push_cast
        rw [Int.add_mul, Int.one_mul]
        omega
  exact go m (Nat.le_refl _)
end
end D
namespace D
/-! ### small tables: what great dishes bring -/
section
variable {g g' : Gs} {n f : Nat} {d : Int}
theorem had_le' {i : Nat} {m : Int} (e : (g i).2 = some m) (h0 : 0 ≤ m) (k : Nat) : (run g n f d k).had i ≤ m := by
  induction k with
  | zero => exact h0
  | succ k ih =>
    rw [run_succ]
    by_cases w : wants g (run g n f d k) ((f + k) % n)
    · rw [vis_yes w]
      show bump _ _ i ≤ m
      by_cases z : i = (f + k) % n
      · have := w.2 m (by rw [← z]; exact e)
        rw [← z] at this ⊢
        rw [bump_self]
        omega
      · rw [bump_ne _ z]
        exact ih
    · rw [vis_no w]
      exact ih
/-- courtesies of at most C, enoughs of at most E -/
def Small (g : Gs) (n C E : Nat) : Prop := ∀ i, i < n → 0 ≤ (g i).1 ∧ (g i).1 ≤ C ∧ ∀ m, (g i).2 = some m → 0 ≤ m ∧ m ≤ E
def opn (g : Gs) (i : Nat) : Prop := (g i).2 = none
instance (g : Gs) (i : Nat) : Decidable (opn g i) := inferInstanceAs (Decidable ((g i).2 = none))
/-- what i has behind r rounds of a great dish -/
def lim (g : Gs) (r i : Nat) : Int := match (g i).2 with
  | none => r
  | some m => if m ≤ r then m else r
theorem lim_le {C E : Nat} (h : Small g n C E) (r i : Nat) (hi : i < n) : 0 ≤ lim g r i ∧ lim g r i ≤ r := by
  unfold lim
  cases e : (g i).2 with
  | none => simp
  | some m =>
    have := ((h i hi).2.2 m e).1
    simp only
    split <;> omega
theorem total_const : ∀ (n : Nat) (c : Int), total n (fun _ => c) = n * c
  | 0, c => by rw [Int.natCast_zero, Int.zero_mul]; rfl
  | n + 1, c => by
    show total n _ + c = _
    rw [total_const n c, Int.natCast_add, Int.add_mul]
    omega
theorem rounds_lim {C E : Nat} (hn : 0 < n) (h : Small g n C E) (hd : (C : Int) + n * E ≤ d) (r : Nat) (hr : r ≤ E) : (∀ i, i < n → (run g n f d (r * n)).had i = lim g r i) ∧ (run g n f d (r * n)).left = d - total n (lim g r) := by
  have left : ∀ k, (∀ i, i < n → (run g n f d k).had i = lim g r i) → (run g n f d k).left = d - total n (lim g r) := fun k hh => by
    have := run_sum (g := g) (f := f) (d := d) hn k
    rw [total_congr hh] at this
    omega
  induction r with
  | zero =>
    have h0 : ∀ i, i < n → (run g n f d (0 * n)).had i = lim g 0 i := fun i hi => by
      rw [Nat.zero_mul]
      show (0 : Int) = _
      have := lim_le h 0 i hi
      omega
    exact ⟨h0, left _ h0⟩
  | succ r ih =>
    have left0 : ∀ k, (∀ i, i < n → (run g n f d k).had i = lim g r i) → (run g n f d k).left = d - total n (lim g r) := fun k hh => by
      have := run_sum (g := g) (f := f) (d := d) hn k
      rw [total_congr hh] at this
      omega
    obtain ⟨h1, h2⟩ := ih (by omega) left0
    have tl : total n (lim g r) ≤ n * (r : Int) := by
      rw [← total_const]
      exact total_le fun i hi => (lim_le h r i hi).2
    have nE : (n : Int) * (r : Int) + n ≤ n * E := by
      have : (n : Int) * ((r : Int) + 1) ≤ n * E := Int.mul_le_mul_of_nonneg_left (by omega) (by omega)
      rw [Int.mul_add, Int.mul_one] at this
      exact this
    have mN : many n (wants g (run g n f d (r * n))) ≤ n := by
      have : many n (wants g (run g n f d (r * n))) ≤ total n (fun _ => 1) := total_le fun i _ => by split <;> omega
      rw [total_const, Int.mul_one] at this
      exact this
    obtain ⟨o1, _⟩ := one_round (g := g) (f := f) (d := d) (k := r * n) hn (fun i hi _ => by
      have := (h i hi).2.1
      omega)
    have hh : ∀ i, i < n → (run g n f d ((r + 1) * n)).had i = lim g (r + 1) i := fun i hi => by
      rw [Nat.succ_mul, o1 i hi, h1 i hi]
      have hC := (h i hi).2.1
      have key : wants g (run g n f d (r * n)) i ↔ ∀ m, (g i).2 = some m → (r : Int) < m := by
        unfold wants
        rw [h1 i hi]
        refine ⟨fun w m e => ?_, fun w => ⟨by omega, fun m e => ?_⟩⟩
        · have := w.2 m e
          unfold lim at this
          rw [e] at this
          simp only at this
          split at this <;> omega
        · have := w m e
          unfold lim
          rw [e]
          simp only
          split <;> omega
      unfold lim
      cases e : (g i).2 with
      | none =>
        rw [if_pos (key.mpr fun m em => by rw [e] at em; cases em)]
        simp only
        omega
      | some m =>
        have m0 := ((h i hi).2.2 m e).1
        by_cases w : (r : Int) < m
        · rw [if_pos (key.mpr fun m' em => by rw [e] at em; cases em; exact w)]
          simp only
          rw [if_neg (by omega)]
          split <;> omega
        · rw [if_neg (fun z => w (key.mp z m e))]
          simp only
          rw [if_pos (by omega), if_pos (by omega)]
          omega
    exact ⟨hh, left _ hh⟩
/-- two runs with the same left, the open ones ahead by one -/
def Ahead (g : Gs) (n : Nat) (s s' : S) : Prop := s'.left = s.left ∧ ∀ i, i < n → s'.had i = s.had i + if opn g i then 1 else 0
theorem vis_ahead {s s' : S} (h : Ahead g n s s') {j : Nat} (hj : j < n) : Ahead g n (vis g s j) (vis g s' j) := by
  obtain ⟨h1, h2⟩ := h
  have iff : wants g s' j ↔ wants g s j := by
    unfold wants
    rw [h1, h2 j hj]
    refine and_congr Iff.rfl ⟨fun z m e => ?_, fun z m e => ?_⟩
    · have := z m e
      rw [if_neg (show ¬ opn g j by unfold opn; rw [e]; intro q; cases q)] at this
      omega
    · have := z m e
      rw [if_neg (show ¬ opn g j by unfold opn; rw [e]; intro q; cases q)]
      omega
  by_cases w : wants g s j
  · rw [vis_yes w, vis_yes (iff.mpr w)]
    refine ⟨by show _ - 1 = _ - 1; rw [h1], fun i hi => ?_⟩
    show bump _ _ i = bump _ _ i + _
    have := h2 i hi
    by_cases z : i = j
    · rw [z, bump_self, bump_self]
      rw [z] at this
      omega
    · rw [bump_ne _ z, bump_ne _ z]
      exact this
  · rw [vis_no w, vis_no fun z => w (iff.mp z)]
    exact ⟨h1, h2⟩
theorem many_opn_le (g : Gs) (n : Nat) : 0 ≤ many n (opn g) ∧ many n (opn g) ≤ n := by
  refine ⟨many_nonneg, ?_⟩
  have : many n (opn g) ≤ total n (fun _ => 1) := total_le fun i _ => by split <;> omega
  rw [total_const, Int.mul_one] at this
  exact this
/-- as many pieces more as there are open ones: each of them has one more -/
theorem period {C E : Nat} (hn : 0 < n) (h : Small g n C E) (hd : (C : Int) + n * E ≤ d) (i : Nat) (hi : i < n) :
    (fin g n f (d + many n (opn g))).had i = (fin g n f d).had i + if opn g i then 1 else 0 := by
  obtain ⟨k0, kn⟩ := many_opn_le g n
  have d0 : 0 ≤ d := by
    have : (0 : Int) ≤ (n : Int) * E := Int.mul_nonneg (by omega) (by omega)
    omega
  have hc : ∀ i, i < n → 0 ≤ (g i).1 := fun i hi => (h i hi).1
  obtain ⟨a1, a2⟩ := rounds_lim (f := f) hn h hd E (Nat.le_refl _)
  obtain ⟨b1, b2⟩ := rounds_lim (f := f) hn h (show (C : Int) + n * E ≤ d + many n (opn g) by omega) E (Nat.le_refl _)
  have tl : total n (lim g E) ≤ n * (E : Int) := by
    rw [← total_const]
    exact total_le fun i hi => (lim_le h E i hi).2
  -- who wants one behind E rounds: the open ones
  have key : ∀ i, i < n → opn g i → 1 ≤ many n (opn g) := fun i hi o => many_pos hi o
  have wb : ∀ i, i < n → (wants g (run g n f (d + many n (opn g)) (E * n)) i ↔ opn g i) := fun i hi => by
    unfold wants
    rw [b1 i hi, b2]
    refine ⟨fun z => ?_, fun o => ⟨?_, fun m e => ?_⟩⟩
    · cases e : (g i).2 with
      | none => exact e
      | some m =>
        have := z.2 m e
        unfold lim at this
        rw [e] at this
        simp only at this
        have hm := ((h i hi).2.2 m e).2
        rw [if_pos (by omega)] at this
        omega
    · have h1 := (h i hi).2.1
      have h2 := key i hi o
      omega
    · unfold opn at o
      rw [o] at e
      cases e
  have mm := many_congr (A := wants g (run g n f (d + many n (opn g)) (E * n))) (B := opn g) wb
  obtain ⟨o1, o2⟩ := one_round (g := g) (f := f) (d := d + many n (opn g)) (k := E * n) hn (fun i hi w => by
    rw [mm, b2]
    have := (h i hi).2.1
    omega)
  have start : Ahead g n (run g n f d (E * n)) (run g n f (d + many n (opn g)) (E * n + n)) := by
    refine ⟨by rw [o2, mm, b2, a2]; omega, fun i hi => ?_⟩
    rw [o1 i hi, b1 i hi, a1 i hi]
    by_cases o : opn g i
    · rw [if_pos o, if_pos ((wb i hi).mpr o)]
    · rw [if_neg o, if_neg fun z => o ((wb i hi).mp z)]
  have go : ∀ j, Ahead g n (run g n f d (E * n + j)) (run g n f (d + many n (opn g)) (E * n + n + j)) := fun j => by
    induction j with
    | zero => exact start
    | succ j ih =>
      have e1 : (f + (E * n + n + j)) % n = (f + (E * n + j)) % n := by
        rw [show f + (E * n + n + j) = f + (E * n + j) + n by omega, Nat.add_mod_right]
      rw [← Nat.add_assoc, ← Nat.add_assoc, run_succ, run_succ, e1]
      exact vis_ahead ih (Nat.mod_lt _ hn)
  have z := go (enoughVisits n d + enoughVisits n (d + many n (opn g)))
  rw [fin_eq hn hc d0 (by omega), fin_eq hn hc (by omega) (by omega)] at z
  exact z.2 i hi
/-- one who has an enough has it -/
theorem full {C E : Nat} (hn : 0 < n) (h : Small g n C E) (hd : (C : Int) + n * E ≤ d) (i : Nat) (hi : i < n) {m : Int} (e : (g i).2 = some m) : (fin g n f d).had i = m := by
  have hm := (h i hi).2.2 m e
  have d0 : 0 ≤ d := by
    have : (0 : Int) ≤ (n : Int) * E := Int.mul_nonneg (by omega) (by omega)
    omega
  obtain ⟨a1, _⟩ := rounds_lim (f := f) hn h hd E (Nat.le_refl _)
  have l1 : lim g E i = m := by
    unfold lim
    rw [e]
    simp only
    rw [if_pos hm.2]
  have l2 := run_had_le (g := g) (n := n) (f := f) (d := d) (E * n) (enoughVisits n d) i
  rw [fin_eq hn (fun i hi => (h i hi).1) d0 (show enoughVisits n d ≤ E * n + enoughVisits n d by omega), a1 i hi, l1] at l2
  have l3 := had_le' (n := n) (f := f) (d := d) e hm.1 (enoughVisits n d)
  have l4 : (fin g n f d).had i ≤ m := l3
  omega
theorem fin_mono (hn : 0 < n) (hc : ∀ i, i < n → 0 ≤ (g i).1) (hd : 0 ≤ d) (k : Nat) (i : Nat) : (fin g n f d).had i ≤ (fin g n f (d + k)).had i := by
  induction k with
  | zero => rw [Int.natCast_zero, Int.add_zero]; exact Int.le_refl _
  | succ k ih =>
    have b := fin_beside (g := g) (n := n) (f := f) (d := d + k) hn hc (by omega)
    rw [show d + ((k + 1 : Nat) : Int) = d + k + 1 by omega]
    rcases b with ⟨_, h2⟩ | ⟨j, _, _, h2, _⟩
    · rw [h2]; exact ih
    · rw [h2]
      unfold bump
      split <;> omega
theorem opn_iff {C E : Nat} (hn : 0 < n) (h : Small g n C E) (i : Nat) (hi : i < n) : opn g i ↔ (fin g n f ((C : Int) + n * E)).had i < (fin g n f ((C : Int) + n * E + n)).had i := by
  have nn : (0 : Int) ≤ (n : Int) * E := Int.mul_nonneg (by omega) (by omega)
  constructor
  · intro o
    have p := period (f := f) hn h (Int.le_refl _) i hi
    rw [if_pos o] at p
    obtain ⟨k0, kn⟩ := many_opn_le g n
    have m := fin_mono (g := g) (f := f) (d := (C : Int) + n * E + many n (opn g)) hn (fun i hi => (h i hi).1) (by omega) (n - (many n (opn g)).toNat) i
    rw [show (C : Int) + n * E + many n (opn g) + ((n - (many n (opn g)).toNat : Nat) : Int) = (C : Int) + n * E + n by omega] at m
    omega
  · intro lt
    cases e : (g i).2 with
    | none => exact e
    | some m =>
      rw [full hn h (Int.le_refl _) i hi e, full hn h (show (C : Int) + n * E ≤ (C : Int) + n * E + n by omega) i hi e] at lt
      omega
/-- who agree at the small dishes agree at all -/
theorem agree {C E : Nat} (hn : 0 < n) (h : Small g n C E) (h' : Small g' n C E) (hh : ∀ d : Nat, (d : Int) ≤ (C : Int) + n * E + n → ∀ i, i < n → (fin g n f d).had i = (fin g' n f d).had i) (d : Nat) : ∀ i, i < n → (fin g n f d).had i = (fin g' n f d).had i := by
  have nn : (0 : Int) ≤ (n : Int) * E := Int.mul_nonneg (by omega) (by omega)
  have cast1 : ((C + n * E : Nat) : Int) = (C : Int) + n * E := by push_cast; rfl
  have cast2 : ((C + n * E + n : Nat) : Int) = (C : Int) + n * E + n := by push_cast; rfl
  have oo : ∀ i, i < n → (opn g i ↔ opn g' i) := fun i hi => by
    rw [opn_iff (f := f) hn h i hi, opn_iff (f := f) hn h' i hi]
    have e1 := hh (C + n * E) (by rw [cast1]; omega) i hi
    have e2 := hh (C + n * E + n) (by rw [cast2]; omega) i hi
    rw [cast1] at e1
    rw [cast2] at e2
    rw [e1, e2]
  have mm : many n (opn g) = many n (opn g') := many_congr oo
  induction d using Nat.strongRecOn with
  | _ d ih =>
    intro i hi
    by_cases c : (d : Int) ≤ (C : Int) + n * E + n
    · exact hh d c i hi
    · obtain ⟨k0, kn⟩ := many_opn_le g n
      by_cases z : many n (opn g) = 0
      · have no : ¬ opn g i := fun o => by have := many_pos hi o; omega
        have no' : ¬ opn g' i := fun o => no ((oo i hi).mpr o)
        cases e : (g i).2 with
        | none => exact absurd e no
        | some m =>
          cases e' : (g' i).2 with
          | none => exact absurd e' no'
          | some m' =>
            have e1 := hh (C + n * E) (by rw [cast1]; omega) i hi
            rw [cast1, full hn h (Int.le_refl _) i hi e, full hn h' (Int.le_refl _) i hi e'] at e1
            rw [full hn h (by omega) i hi e, full hn h' (by omega) i hi e']
            exact e1
      · obtain ⟨k, hk⟩ : ∃ k : Nat, many n (opn g) = (k : Int) := ⟨(many n (opn g)).toNat, by omega⟩
        have p := period (f := f) (d := ((d - k : Nat) : Int)) hn h (by omega) i hi
        have p' := period (f := f) (d := ((d - k : Nat) : Int)) hn h' (by omega) i hi
        rw [← mm] at p'
        rw [hk, show ((d - k : Nat) : Int) + (k : Int) = (d : Int) by omega] at p p'
        rw [p, p', ih (d - k) (by omega) i hi]
        by_cases o : opn g i
        · rw [if_pos o, if_pos ((oo i hi).mp o)]
        · rw [if_neg o, if_neg fun y => o ((oo i hi).mpr y)]
end
end D
namespace D
/-! ### the shares as lists -/
abbrev gs (t : List (Int × Option Int)) : Gs := fun i => t.getD i (0, none)
def hadL (n : Nat) (h : Nat → Int) : List Int := (List.range n).map h
theorem hadL_len (n : Nat) (h : Nat → Int) : (hadL n h).length = n := by simp [hadL]
theorem hadL_get {n : Nat} (h : Nat → Int) {i : Nat} (hi : i < n) : (hadL n h)[i]? = some (h i) := by simp [hadL, hi]
theorem hadL_congr {n : Nat} {h h' : Nat → Int} (e : ∀ i, i < n → h i = h' i) : hadL n h = hadL n h' :=
  List.map_congr_left fun i hi => e i (List.mem_range.mp hi)
theorem hadL_inj {n : Nat} {h h' : Nat → Int} (e : hadL n h = hadL n h') {i : Nat} (hi : i < n) : h i = h' i := by
  have := hadL_get h hi
  rw [e, hadL_get h' hi] at this
  exact (Option.some.inj this).symm
theorem hadL_set {n : Nat} (h : Nat → Int) {i : Nat} (hi : i < n) (v : Int) : (hadL n h).set i v = hadL n (fun j => if j = i then v else h j) := by
  apply List.ext_getElem?
  intro j
  by_cases hj : j < n
  · rw [hadL_get _ hj]
    by_cases e : j = i
    · subst e
      rw [List.getElem?_set_self (by rw [hadL_len]; exact hi), if_pos rfl]
    · rw [List.getElem?_set_ne (Ne.symm e), hadL_get _ hj, if_neg e]
  · rw [List.getElem?_eq_none (by rw [List.length_set, hadL_len]; omega), List.getElem?_eq_none (by rw [hadL_len]; omega)]
theorem hadL_bump {n : Nat} (h : Nat → Int) {i : Nat} (hi : i < n) : (hadL n h).set i (h i + 1) = hadL n (bump h i) := by
  rw [hadL_set h hi]
  refine hadL_congr fun j _ => ?_
  unfold bump
  by_cases e : j = i
  · rw [if_pos e, if_pos e, e]
  · rw [if_neg e, if_neg e]
theorem hadL_zero (n : Nat) : hadL n (fun _ => 0) = List.replicate n 0 := by
  apply List.ext_getElem?
  intro j
  by_cases hj : j < n
  · rw [hadL_get _ hj, List.getElem?_replicate, if_pos hj]
  · rw [List.getElem?_eq_none (by rw [hadL_len]; omega), List.getElem?_replicate, if_neg hj]
theorem total_hadL : ∀ (n : Nat) (h : Nat → Int), (hadL n h).sum = total n h
  | 0, _ => rfl
  | n + 1, h => by
    show ((List.range (n + 1)).map h).sum = total n h + h n
    rw [List.range_succ, List.map_append, List.sum_append, ← total_hadL n h]
    simp [hadL]
/-- the seats that want one, in order -/
def act (g : Gs) (n : Nat) (s : S) : List Nat := (List.range n).filter fun i => decide (wants g s i)
theorem mem_act {g : Gs} {n : Nat} {s : S} {i : Nat} : i ∈ act g n s ↔ i < n ∧ wants g s i := by
  unfold act
  rw [List.mem_filter, List.mem_range, decide_eq_true_eq]
theorem act_nil {g : Gs} {n : Nat} {s : S} : act g n s = [] ↔ Quiet g n s := by
  constructor
  · intro e i hi w
    have : i ∈ act g n s := mem_act.mpr ⟨hi, w⟩
    rw [e] at this
    cases this
  · intro q
    cases e : act g n s with
    | nil => rfl
    | cons a l =>
      have : a ∈ act g n s := by rw [e]; exact List.mem_cons_self
      exact absurd (mem_act.mp this).2 (q a (mem_act.mp this).1)
theorem act_nodup (g : Gs) (n : Nat) (s : S) : (act g n s).Nodup := List.nodup_range.filter _
theorem act_le (g : Gs) (n : Nat) (s : S) : (act g n s).length ≤ n := by
  have := List.length_filter_le (fun i => decide (wants g s i)) (List.range n)
  rw [List.length_range] at this
  exact this
theorem act_many (g : Gs) (n : Nat) (s : S) : ((act g n s).length : Int) = many n (wants g s) := by
  unfold act
  induction n with
  | zero => rfl
  | succ n ih =>
    rw [List.range_succ, List.filter_append, List.length_append]
    show _ = many n (wants g s) + if wants g s n then 1 else 0
    rw [← ih]
    by_cases w : wants g s n
    · simp [w]
    · simp [w]
/-- the list behind «for seat in some: had[seat] += many», after j of some -/
def hadOn (h : Nat → Int) (m : Int) (l : List Nat) : Nat → Int := fun i => if i ∈ l then h i + m else h i
theorem hadOn_nil (h : Nat → Int) (m : Int) : hadOn h m [] = h := by
  funext i
  simp [hadOn]
theorem hadOn_snoc {n : Nat} {h : Nat → Int} {m : Int} {l : List Nat} {i : Nat} (hi : i < n) (hl : i ∉ l) : (hadL n (hadOn h m l)).set i (hadOn h m l i + m) = hadL n (hadOn h m (l ++ [i])) := by
  rw [hadL_set _ hi]
  refine hadL_congr fun j _ => ?_
  unfold hadOn
  by_cases e : j = i
  · subst e
    rw [if_pos rfl, if_neg hl, if_pos (by simp)]
  · rw [if_neg e]
    by_cases z : j ∈ l
    · rw [if_pos z, if_pos (by simp [z])]
    · rw [if_neg z, if_neg (by simp [z, e])]
theorem mem_take_at {l : List Nat} (nd : l.Nodup) {j i : Nat} (h : l[j]? = some i) : i ∉ l.take j := by
  intro z
  obtain ⟨j', h1, h2⟩ := List.mem_iff_getElem.mp z
  rw [List.length_take] at h1
  obtain ⟨h3, h4⟩ := List.getElem?_eq_some_iff.mp h
  rw [List.getElem_take] at h2
  have := (List.getElem_inj nd).mp (h2.trans h4.symm)
  omega
end D
namespace D
/-! ### one guest asks for a little less -/
section
variable {g g' : Gs} {n p : Nat}
/-- the others are the same -/
def Others (g g' : Gs) (p : Nat) : Prop := ∀ i, i ≠ p → g i = g' i
theorem wants_other (o : Others g g' p) {s : S} {i : Nat} (h : i ≠ p) : wants g s i ↔ wants g' s i := by
  unfold wants
  rw [o i h]
/-- the run of g (s) beside that of g' (s'): p has one more in s, if they differ -/
inductive Moved (g g' : Gs) (n p : Nat) (s s' : S) : Prop
  | same (h1 : s.left = s'.left) (h2 : s.had = s'.had)
  | off (h1 : s'.left = s.left + 1) (h2 : s.had = bump s'.had p) (h3 : ¬ wants g s p) (h4 : ¬ wants g' s' p)
  | gave (i : Nat) (hi : i < n) (ip : i ≠ p) (h1 : s'.left = s.left) (h2 : bump s.had i = bump s'.had p) (h3 : ¬ wants g s p) (h4 : ¬ wants g' s' p) (h5 : ¬ wants g s i) (h6 : ¬ wants g' s' i)
theorem bump_comm (h : Nat → Int) (i j : Nat) : bump (bump h i) j = bump (bump h j) i := by
  funext x
  unfold bump
  split <;> split <;> simp
theorem bump_inj {h h' : Nat → Int} {i : Nat} (e : bump h i = bump h' i) : h = h' := by
  funext x
  have := congrFun e x
  unfold bump at this
  split at this <;> omega
theorem vis_moved (o : Others g g' p) (hw : ∀ s : S, wants g' s p → wants g s p) (hd : ∀ s : S, wants g s p → ¬ wants g' s p → ¬ wants g ⟨s.left - 1, bump s.had p⟩ p)
    {s s' : S} (h : Moved g g' n p s s') (j : Nat) (hj : j < n) : Moved g g' n p (vis g s j) (vis g' s' j) := by
  rcases h with ⟨h1, h2⟩ | ⟨h1, h2, h3, h4⟩ | ⟨i, hi, ip, h1, h2, h3, h4, h5, h6⟩
  · have es : s = s' := by
      cases s; cases s'; simp only at h1 h2; rw [h1, h2]
    subst es
    by_cases e : j = p
    · subst e
      by_cases w : wants g s j
      · by_cases w' : wants g' s j
        · rw [vis_yes w, vis_yes w']
          exact .same rfl rfl
        · rw [vis_yes w, vis_no w']
          exact .off (by simp) rfl (hd s w w') w'
      · have w' : ¬ wants g' s j := fun z => w (hw s z)
        rw [vis_no w, vis_no w']
        exact .same rfl rfl
    · have iff := wants_other (s := s) o e
      by_cases w : wants g s j
      · rw [vis_yes w, vis_yes (iff.mp w)]
        exact .same rfl rfl
      · rw [vis_no w, vis_no fun z => w (iff.mpr z)]
        exact .same rfl rfl
  · by_cases e : j = p
    · subst e
      rw [vis_no h3, vis_no h4]
      exact .off h1 h2 h3 h4
    · have ej : s.had j = s'.had j := by rw [h2, bump_ne _ e]
      have og := o j e
      by_cases w : wants g s j
      · have w' : wants g' s' j := ⟨by rw [← og]; have := w.1; omega, fun m em => by rw [← ej]; exact w.2 m (by rw [og]; exact em)⟩
        rw [vis_yes w, vis_yes w']
        refine .off (by show s'.left - 1 = s.left - 1 + 1; omega) (by show bump s.had j = bump (bump s'.had j) p; rw [h2, bump_comm]) ?_ ?_
        · have := no_stays (g := g) j h3
          rw [vis_yes w] at this
          exact this
        · have := no_stays (g := g') j h4
          rw [vis_yes w'] at this
          exact this
      · rw [vis_no w]
        by_cases w' : wants g' s' j
        · rw [vis_yes w']
          refine .gave j hj e (by show s'.left - 1 = s.left; omega) (by show bump s.had j = bump (bump s'.had j) p; rw [h2, bump_comm]) h3 ?_ w ?_
          · have := no_stays (g := g') j h4
            rw [vis_yes w'] at this
            exact this
          · intro z
            apply w
            have z1 : (g' j).1 < s'.left - 1 := z.1
            exact ⟨by rw [og]; omega, fun m em => by rw [ej]; exact w'.2 m (by rw [← og]; exact em)⟩
        · rw [vis_no w']
          exact .off h1 h2 h3 h4
  · by_cases e : j = p
    · subst e
      rw [vis_no h3, vis_no h4]
      exact .gave i hi ip h1 h2 h3 h4 h5 h6
    · by_cases e2 : j = i
      · subst e2
        rw [vis_no h5, vis_no h6]
        exact .gave j hi ip h1 h2 h3 h4 h5 h6
      · have ej : s.had j = s'.had j := by
          have := congrFun h2 j
          rw [bump_ne _ e2, bump_ne _ e] at this
          exact this
        have og := o j e
        by_cases w : wants g s j
        · have w' : wants g' s' j := ⟨by rw [← og]; have := w.1; omega, fun m em => by rw [← ej]; exact w.2 m (by rw [og]; exact em)⟩
          have n3 := no_stays (g := g) j h3
          have n4 := no_stays (g := g') j h4
          have n5 := no_stays (g := g) j h5
          have n6 := no_stays (g := g') j h6
          rw [vis_yes w] at n3 n5 ⊢
          rw [vis_yes w'] at n4 n6 ⊢
          exact .gave i hi ip (by show s'.left - 1 = s.left - 1; omega) (by show bump (bump s.had j) i = bump (bump s'.had j) p; rw [bump_comm, h2, bump_comm]) n3 n4 n5 n6
        · have w' : ¬ wants g' s' j := fun z => w ⟨by rw [og]; have := z.1; omega, fun m em => by rw [ej]; exact z.2 m (by rw [← og]; exact em)⟩
          rw [vis_no w, vis_no w']
          exact .gave i hi ip h1 h2 h3 h4 h5 h6
theorem fin_moved {f : Nat} {d : Int} (hn : 0 < n) (o : Others g g' p) (hw : ∀ s : S, wants g' s p → wants g s p) (hd : ∀ s : S, wants g s p → ¬ wants g' s p → ¬ wants g ⟨s.left - 1, bump s.had p⟩ p) :
    Moved g g' n p (fin g n f d) (fin g' n f d) := by
  have go : ∀ k, Moved g g' n p (run g n f d k) (run g' n f d k) := fun k => by
    induction k with
    | zero => exact .same rfl rfl
    | succ k ih => exact vis_moved o hw hd ih _ (Nat.mod_lt _ hn)
  exact go (enoughVisits n d)
/-- a courtesy one greater -/
theorem courtesy_moved {c : Int} {e : Option Int} (h : g p = (c, e)) (h' : g' p = (c + 1, e)) : (∀ s : S, wants g' s p → wants g s p) ∧ ∀ s : S, wants g s p → ¬ wants g' s p → ¬ wants g ⟨s.left - 1, bump s.had p⟩ p := by
  unfold wants
  rw [h, h']
  refine ⟨fun s w => ⟨by have := w.1; simp only at this ⊢; omega, w.2⟩, fun s w n z => n ⟨?_, w.2⟩⟩
  have := z.1
  simp only at this ⊢
  omega
/-- an enough one greater -/
theorem enough_moved {c m : Int} (h : g p = (c, some (m + 1))) (h' : g' p = (c, some m)) : (∀ s : S, wants g' s p → wants g s p) ∧ ∀ s : S, wants g s p → ¬ wants g' s p → ¬ wants g ⟨s.left - 1, bump s.had p⟩ p := by
  unfold wants
  rw [h, h']
  refine ⟨fun s w => ⟨w.1, fun m' e => ?_⟩, fun s w n z => n ⟨w.1, fun m' e => ?_⟩⟩
  · cases e
    have := w.2 m rfl
    omega
  · cases e
    have := z.2 (m + 1) rfl
    simp only [bump_self] at this
    omega
end
end D
namespace Lp
open PySem PySem.Spec PyProof.Rows L2
/-! ### callable names -/
/-- the module's name x may be called, with the promise sp, at level k -/
structure Cal (P : Program) (w : World) (K : PySem.W.Frag) (mg : Str → Option Value) (base : Heap) (k : Nat) (x : Str) (sp : Sp) : Prop where
  ex : ∃ (f : Addr) (fd : FuncData) (ps : List Str), FnOk P w K mg base L2.CX0 k f fd ps sp ∧ mg x = some (.ref f) ∧ PySem.W.keepIn K (.ref f) = true ∧ Binds K fd ps []
section
variable {X : Cx} {k j : Nat} {x : Str} {sp : Sp} {p pos : Pos} {e : Expr} {es : List Expr} {t : TA}
theorem pe_g (c : Cal X.prog X.w X.K X.mg X.base k x sp) (hr : Room j X.A) (ha : PA X (e :: es) t) (hk : k ≤ j := by decide) (hg : Gl X x := by rfl)
    (hdb : (x == ("__debug__" : Str)) = false := by decide) (he : starEach (e :: es) X.env = (false, eval e X.env) :: starEach es X.env := by rfl) (hpl : (backTo pos (starEach es X.env)).any (·.1) = false := by rfl) :
    PE X (.Call (.Name x p) (e :: es) [] pos) (tCall sp [] L2.E0 t) := by
  obtain ⟨f, fd, ps, F, hm, kp, b⟩ := c.ex
  exact pe_call F (hr.mono hk) hg hm kp b .nil L2.pass0 ha hdb he hpl
end
/-- the method m of the class at C -/
structure Met (P : Program) (w : World) (K : PySem.W.Frag) (mg : Str → Option Value) (base : Heap) (k : Nat) (C : Addr) (m : Str) (sp : Sp) : Prop where
  ex : ∃ (f : Addr) (fd : FuncData) (ps : List Str), Cls K C ∧ Meth K C m f ∧ FnOk P w K mg base L2.CX0 k f fd ps sp ∧ Binds K fd ps []
/-- the class x at C may be made; sp: its __init__ -/
structure Mak (P : Program) (w : World) (K : PySem.W.Frag) (mg : Str → Option Value) (base : Heap) (k : Nat) (x : Str) (C : Addr) (sp : Sp) : Prop where
  ex : ∃ (f : Addr) (fd : FuncData) (ps : List Str), Mk K C f ∧ FnOk P w K mg base L2.CX0 k f fd ps sp ∧ mg x = some (.ref C) ∧ Binds K fd ps []
section
variable {X : Cx} {k j : Nat} {C : Addr} {x m : Str} {sp : Sp} {p pos apos : Pos} {e o : Expr} {es : List Expr} {ta : TE} {t : TA}
theorem pe_new (c : Mak X.prog X.w X.K X.mg X.base k x C sp) (hr : Room j X.A) (ha : PA X (e :: es) t) (hk : k + 1 ≤ j := by decide) (hg : Gl X x := by rfl)
    (hdb : (x == ("__debug__" : Str)) = false := by decide) (he : starEach (e :: es) X.env = (false, eval e X.env) :: starEach es X.env := by rfl) (hpl : (backTo pos (starEach es X.env)).any (·.1) = false := by rfl) :
    PE X (.Call (.Name x p) (e :: es) [] pos) (tMake C sp [] L2.E0 t) := by
  obtain ⟨f, fd, ps, M, F, hm, b⟩ := c.ex
  exact pe_make M F (hr.mono hk) hg hm b .nil L2.pass0 ha hdb he hpl
theorem pe_me {pl : Sem Bool} (c : Met X.prog X.w X.K X.mg X.base k C m sp) (hr : Room j X.A) (he : PE X o ta) (ha : PA X (e :: es) t) (hk : k ≤ j := by decide)
    (hst : starEach (e :: es) X.env = (false, eval e X.env) :: starEach es X.env := by rfl) (hpl : (backTo pos (starEach es X.env)).any (·.1) = false := by rfl)
    (ht : eval (.Call (.Attribute o m apos) (e :: es) [] pos) X.env = (eval o X.env >>= fun ov => standAt apos.atName >>= fun _ => holding [ov] (getMethod ov m pl) >>= fun q =>
      callWith pos q.1 q.2 (backTo pos (starEach (e :: es) X.env)) (backToKw pos (keywordEach [] X.env))) := by rfl) :
    PE X (.Call (.Attribute o m apos) (e :: es) [] pos) (tMeth C m sp [] L2.E0 ta t) := by
  obtain ⟨f, fd, ps, hc, hm, F, b⟩ := c.ex
  exact pe_meth (pl := pl) he hc hm F (hr.mono hk) b .nil L2.pass0 ha hst hpl ht
theorem pe_me0 {pl : Sem Bool} (c : Met X.prog X.w X.K X.mg X.base k C m sp) (hr : Room j X.A) (he : PE X o ta) (hk : k ≤ j := by decide)
    (ht : eval (.Call (.Attribute o m apos) [] [] pos) X.env = (eval o X.env >>= fun ov => standAt apos.atName >>= fun _ => holding [ov] (getMethod ov m pl) >>= fun q =>
      callWith pos q.1 q.2 (backTo pos (starEach [] X.env)) (backToKw pos (keywordEach [] X.env))) := by rfl) :
    PE X (.Call (.Attribute o m apos) [] [] pos) (tMeth C m sp [] L2.E0 ta tNil) := by
  obtain ⟨f, fd, ps, hc, hm, F, b⟩ := c.ex
  exact pe_meth0 (pl := pl) he hc hm F (hr.mono hk) b .nil L2.pass0 ht
end
/-- the module's name x, a def of n parameters and the keyword-only one «first», which is 0 where it lacks -/
structure CalK (P : Program) (w : World) (K : PySem.W.Frag) (mg : Str → Option Value) (base : Heap) (k n : Nat) (x : Str) (sp : Sp) : Prop where
  ex : ∃ (f : Addr) (fd : FuncData) (ps : List Str), FnOk P w K mg base L2.CX0 k f fd ps sp ∧ mg x = some (.ref f) ∧ PySem.W.keepIn K (.ref f) = true ∧
    (∃ ds, Vals [.int 0] ds ∧ Binds K fd ps ds) ∧ KBn K fd ps n (["first"] : List Str) (fun us ws => us ++ ws) (fun vs zs => vs ++ zs)
section
variable {X : Cx} {k j n : Nat} {x : Str} {sp : Sp} {p pos : Pos} {e : Expr} {es : List Expr} {kws : List Keyword} {t tk : TA}
/-- without the keyword -/
theorem pe_gd (c : CalK X.prog X.w X.K X.mg X.base k n x sp) (hr : Room j X.A) (ha : PA X (e :: es) t) (hk : k ≤ j := by decide) (hg : Gl X x := by rfl)
    (hdb : (x == ("__debug__" : Str)) = false := by decide) (he : starEach (e :: es) X.env = (false, eval e X.env) :: starEach es X.env := by rfl) (hpl : (backTo pos (starEach es X.env)).any (·.1) = false := by rfl) :
    PE X (.Call (.Name x p) (e :: es) [] pos) (tCall sp [.int 0] L2.E0 t) := by
  obtain ⟨f, fd, ps, F, hm, kp, ⟨ds, vd, b⟩, _⟩ := c.ex
  exact pe_call F (hr.mono hk) hg hm kp b vd L2.pass0 ha hdb he hpl
/-- with it -/
theorem pe_gk (c : CalK X.prog X.w X.K X.mg X.base k n x sp) (hr : Room j X.A) (ha : PA X (e :: es) t) (hkw : PK X kws tk) (hk : k ≤ j := by decide) (hg : Gl X x := by rfl)
    (hall : (backToKw pos (keywordEach kws X.env)).all (·.1.isSome) = true := by rfl) (hks : (backToKw pos (keywordEach kws X.env)).filterMap (·.1) = (["first"] : List Str) := by rfl)
    (hdb : (x == ("__debug__" : Str)) = false := by decide) (he : starEach (e :: es) X.env = (false, eval e X.env) :: starEach es X.env := by rfl)
    (hpl : ((backTo pos (starEach (e :: es) X.env)).any (·.1) || (backToKw pos (keywordEach kws X.env)).any (·.1.isNone)) = false := by rfl) :
    PE X (.Call (.Name x p) (e :: es) kws pos) (tCallN n 1 sp (fun vs zs => vs ++ zs) L2.E0 t tk) := by
  obtain ⟨f, fd, ps, F, hm, kp, _, kb⟩ := c.ex
  exact pe_callN F (hr.mono hk) hg hm kp kb L2.pass0 ha hkw hall hks hdb he hpl
end
/-! ### what the top has written -/
/-- a def without defaults under its name -/
structure DefIn (K : PySem.W.Frag) (mg : Str → Option Value) (x : Str) (st : Stmt) : Prop where
  ex : ∃ (f : Addr) (fd : FuncData), L2.Fun K x x st f fd ∧ mg x = some (.ref f)
/-- a def whose one keyword-only parameter has a default -/
structure DefKw (K : PySem.W.Frag) (mg : Str → Option Value) (x : Str) (st : Stmt) : Prop where
  ex : ∃ (f : Addr) (fd : FuncData), FunD K x x (defArgs st) (defBody st) (defScope st) [] [("first", .int 0)] f fd ∧ mg x = some (.ref f)
/-- a method of the class at C -/
structure MethIn (K : PySem.W.Frag) (C : Addr) (m qual : Str) (st : Stmt) : Prop where
  ex : ∃ (f : Addr) (fd : FuncData), L2.Fun K m qual st f fd ∧ Meth K C m f
theorem defIn_mk {K : PySem.W.Frag} {h : Heap} {mg : Str → Option Value} {x : Str} {st : Stmt} {f : Addr} {oc : Value} {od an : Option Addr} {osl : Array (Option Value)} {kV doc pm cdv ct : Value} (X : K.In h) (G : h.Ns mainGlobals mg)
    (a : PySem.W.nsIn K mainGlobals x = some (some (.ref f)))
    (l : K.lookup f = some ⟨oc, od, .func (PySem.W.fnOf x x (defArgs st) (defBody st) (defScope st) .none kV doc pm an cdv ct), osl⟩)
    (c : PySem.W.codeIn K cdv x = true) (k : PySem.W.keepIn K (.ref f) = true) : DefIn K mg x st :=
  ⟨f, _, fun_mk l c k, PySem.W.mg_of X G a⟩
theorem defKw_mk {K : PySem.W.Frag} {h : Heap} {mg : Str → Option Value} {x : Str} {st : Stmt} {f D : Addr} {oc : Value} {od an : Option Addr} {osl : Array (Option Value)} {doc pm cdv ct u : Value} (X : K.In h) (G : h.Ns mainGlobals mg)
    (a : PySem.W.nsIn K mainGlobals x = some (some (.ref f)))
    (l : K.lookup f = some ⟨oc, od, .func (PySem.W.fnOf x x (defArgs st) (defBody st) (defScope st) .none (.ref D) doc pm an cdv ct), osl⟩)
    (d : PySem.W.nsIn K D "first" = some (some u)) (r : RelV (.int 0) u)
    (c : PySem.W.codeIn K cdv x = true) (k : PySem.W.keepIn K (.ref f) = true) : DefKw K mg x st :=
  ⟨f, _, ⟨⟨oc, od, _, _, doc, pm, an, cdv, ct, osl, rfl, l, c, .inl ⟨rfl, rfl⟩, .inr ⟨D, rfl, fun q hq => by
    rcases List.mem_cons.mp hq with e | hq
    · rw [e]; exact ⟨_, d, r⟩
    · cases hq⟩⟩, k⟩, PySem.W.mg_of X G a⟩
theorem methIn_mk {K : PySem.W.Frag} {C : Addr} {m qual : Str} {st : Stmt} {f : Addr} {oc : Value} {od an : Option Addr} {osl : Array (Option Value)} {kV doc pm cdv ct : Value}
    (a : PySem.W.findIn K (.ref C) m = some (some (.ref f)))
    (l : K.lookup f = some ⟨oc, od, .func (PySem.W.fnOf m qual (defArgs st) (defBody st) (defScope st) .none kV doc pm an cdv ct), osl⟩)
    (i : PySem.W.isFn K (.ref f) = true) (c : PySem.W.codeIn K cdv qual = true) (k : PySem.W.keepIn K (.ref f) = true) : MethIn K C m qual st :=
  ⟨f, _, fun_mk l c k, ⟨a, i, k⟩⟩
/-- the built-in names are the built-in ones -/
structure Bls (mg : Str → Option Value) : Prop where
  isinstance : mg "isinstance" = none
  int : mg "int" = none
  bool : mg "bool" = none
  tuple : mg "tuple" = none
  list : mg "list" = none
  len : mg "len" = none
  all : mg "all" = none
  any : mg "any" = none
  max : mg "max" = none
  min : mg "min" = none
  sum : mg "sum" = none
  range : mg "range" = none
  enumerate : mg "enumerate" = none
  zip : mg "zip" = none
  sorted : mg "sorted" = none
  repr : mg "repr" = none
/-! ### data -/
def tyD : PyData → String
  | .none => "NoneType"
  | .bool _ => "bool"
  | .int _ => "int"
  | .str _ => "str"
  | .list _ => "list"
  | .tuple _ => "tuple"
  | .dict _ => "dict"
theorem tyx {K : PySem.W.Frag} {H : Hp} {v : V} {d : PyData} (h : Dp K H v d) : TyX K H v (.type (tyD d)) := by
  cases h with
  | non => exact .base .non
  | bl b => exact .base (.bl b)
  | int i => exact .base (.int i)
  | str x => exact .base (.str x)
  | lst hs _ =>
    rcases hs with (h | ⟨o, h⟩) | ⟨o, its, n, h, c, _⟩
    · exact .base (.lst h)
    · exact .base (.frz h)
    · exact .kList h c
  | tup hs _ =>
    rcases hs with (h | ⟨o, h⟩) | ⟨o, its, n, h, c, _⟩
    · exact .base (.tup h)
    · exact .fTuple h
    · exact .kTuple h c
/-- isinstance(x, T) of data, T a built-in type -/
def isIntD : PyData → Bool
  | .int _ => true
  | .bool _ => true
  | _ => false
def isBoolD : PyData → Bool
  | .bool _ => true
  | _ => false
def isTupD : PyData → Bool
  | .tuple _ => true
  | _ => false
def isLstD : PyData → Bool
  | .list _ => true
  | _ => false
theorem kit_i (K : PySem.W.Frag) (d : PyData) : PySem.W.kitOne K (.type (tyD d)) (.type "int") = some (isIntD d) := by
  cases d with
  | none => exact kit_ty (show kitB "NoneType" "int" = some false by decide +kernel)
  | bool _ => exact kit_ty (show kitB "bool" "int" = some true by decide +kernel)
  | int _ => exact kit_ty (show kitB "int" "int" = some true by decide +kernel)
  | str _ => exact kit_ty (show kitB "str" "int" = some false by decide +kernel)
  | list _ => exact kit_ty (show kitB "list" "int" = some false by decide +kernel)
  | tuple _ => exact kit_ty (show kitB "tuple" "int" = some false by decide +kernel)
  | dict _ => exact kit_ty (show kitB "dict" "int" = some false by decide +kernel)
theorem kit_b (K : PySem.W.Frag) (d : PyData) : PySem.W.kitOne K (.type (tyD d)) (.type "bool") = some (isBoolD d) := by
  cases d with
  | none => exact kit_ty (show kitB "NoneType" "bool" = some false by decide +kernel)
  | bool _ => exact kit_ty (show kitB "bool" "bool" = some true by decide +kernel)
  | int _ => exact kit_ty (show kitB "int" "bool" = some false by decide +kernel)
  | str _ => exact kit_ty (show kitB "str" "bool" = some false by decide +kernel)
  | list _ => exact kit_ty (show kitB "list" "bool" = some false by decide +kernel)
  | tuple _ => exact kit_ty (show kitB "tuple" "bool" = some false by decide +kernel)
  | dict _ => exact kit_ty (show kitB "dict" "bool" = some false by decide +kernel)
theorem kit_t (K : PySem.W.Frag) (d : PyData) : PySem.W.kitOne K (.type (tyD d)) (.type "tuple") = some (isTupD d) := by
  cases d with
  | none => exact kit_ty (show kitB "NoneType" "tuple" = some false by decide +kernel)
  | bool _ => exact kit_ty (show kitB "bool" "tuple" = some false by decide +kernel)
  | int _ => exact kit_ty (show kitB "int" "tuple" = some false by decide +kernel)
  | str _ => exact kit_ty (show kitB "str" "tuple" = some false by decide +kernel)
  | list _ => exact kit_ty (show kitB "list" "tuple" = some false by decide +kernel)
  | tuple _ => exact kit_ty (show kitB "tuple" "tuple" = some true by decide +kernel)
  | dict _ => exact kit_ty (show kitB "dict" "tuple" = some false by decide +kernel)
theorem kit_l (K : PySem.W.Frag) (d : PyData) : PySem.W.kitOne K (.type (tyD d)) (.type "list") = some (isLstD d) := by
  cases d with
  | none => exact kit_ty (show kitB "NoneType" "list" = some false by decide +kernel)
  | bool _ => exact kit_ty (show kitB "bool" "list" = some false by decide +kernel)
  | int _ => exact kit_ty (show kitB "int" "list" = some false by decide +kernel)
  | str _ => exact kit_ty (show kitB "str" "list" = some false by decide +kernel)
  | list _ => exact kit_ty (show kitB "list" "list" = some true by decide +kernel)
  | tuple _ => exact kit_ty (show kitB "tuple" "list" = some false by decide +kernel)
  | dict _ => exact kit_ty (show kitB "dict" "list" = some false by decide +kernel)
section
variable {X : Cx} {a b : Expr} {ta tb : TE} {p pos : Pos}
/-- isinstance(a, b) -/
theorem pe_isi (B : Bls X.mg) (ha : PE X a ta) (hb : PE X b tb) (hg : Gl X "isinstance" := by rfl) (he : starEach [a, b] X.env = (false, eval a X.env) :: starEach [b] X.env := by rfl) (h2 : starEach [b] X.env = (false, eval b X.env) :: starEach [] X.env := by rfl)
    (hpl : (backTo pos (starEach [b] X.env)).any (·.1) = false := by rfl) : PE X (.Call (.Name "isinstance" p) [a, b] [] pos) (tCB (rIsi X.K) (tCons ta (tCons tb tNil))) :=
  pe_callB call_isi hg B.isinstance (by decide +kernel) (pa_cons ha (pa_cons hb pa_nil h2) he) (by decide) (by decide) he hpl
/-- the name of a built-in type as a value -/
theorem pe_tInt (B : Bls X.mg) (hg : Gl X "int" := by rfl) : PE X (.Name "int" pos) (tC (.ty "int")) := pe_bltn hg B.int (by decide +kernel) rfl
theorem pe_tBool (B : Bls X.mg) (hg : Gl X "bool" := by rfl) : PE X (.Name "bool" pos) (tC (.ty "bool")) := pe_bltn hg B.bool (by decide +kernel) rfl
theorem pe_tTuple (B : Bls X.mg) (hg : Gl X "tuple" := by rfl) : PE X (.Name "tuple" pos) (tC (.ty "tuple")) := pe_bltn hg B.tuple (by decide +kernel) rfl
theorem pe_tList (B : Bls X.mg) (hg : Gl X "list" := by rfl) : PE X (.Name "list" pos) (tC (.ty "list")) := pe_bltn hg B.list (by decide +kernel) rfl
/-- len(a), a a list or a tuple -/
theorem pe_len (B : Bls X.mg) (ha : PE X a ta) (hg : Gl X "len" := by rfl) (he : starEach [a] X.env = (false, eval a X.env) :: starEach [] X.env := by rfl)
    (hpl : (backTo pos (starEach [] X.env)).any (·.1) = false := by rfl) : PE X (.Call (.Name "len" p) [a] [] pos) (tCB (fun xs H Q => ∃ p ys, xs = [.ref p] ∧ (SqL X.K H p ys ∨ SqT X.K H p ys) ∧ Q (.int ys.length) H) (tCons ta tNil)) :=
  pe_callB call_len_seq hg B.len PySem.boot_len (pa_cons ha pa_nil he) (by decide) (by decide) he hpl
end
/-! ### rules of one's own -/
def rGetL (K : PySem.W.Frag) : V → V → Hp → VK → Prop := fun o i H Q => ∃ p xs k v, o = .ref p ∧ i = .int k ∧ SqL K H p xs ∧ 0 ≤ k ∧ xs[k.toNat]? = some v ∧ Q v H
theorem get_list {X : Cx} : PGet X (rGetL X.K) := by
  intro pins s σ H o i ov iv Q I ro ri h
  obtain ⟨p, xs, k, v, rfl, rfl, hq, h0, hx, q⟩ := h
  cases ro
  obtain ⟨t, rfl⟩ := ri
  obtain ⟨its, r, pl, hz⟩ := I.list hq
  obtain ⟨u, eu, ru⟩ := r.get hx
  have hn := line63
  have hlt := (List.getElem?_eq_some_iff.mp hx).1
  exact wpAny_getItem_list pl.isList h0 (by omega) (by simpa using eu) ⟨v, H, I, ru, q⟩
/-! ### heaps -/
theorem same_upd {H : Hp} {p : Addr} {o : HO} (hp : H p = none) : Same H (upd H p o) := fun b u e => by
  rw [upd_ne (ne_of_none e hp)]
  exact e
theorem Same.sqt {K : PySem.W.Frag} {H H' : Hp} {a : Addr} {xs : List V} (e : Same H H') (h : SqT K H a xs) : SqT K H' a xs := by
  rcases h with (h | ⟨o, h⟩) | h
  · exact .inl (.inl (e _ _ h))
  · exact .inl (.inr ⟨o, e _ _ h⟩)
  · exact .inr h
theorem ints_get {ns : List Int} {i : Nat} {y : V} (h : (ns.map V.int)[i]? = some y) : ∃ n, ns[i]? = some n ∧ y = .int n := by
  rw [List.getElem?_map] at h
  cases e : ns[i]? with
  | none => rw [e] at h; cases h
  | some n => rw [e] at h; exact ⟨n, rfl, (Option.some.inj h).symm⟩
theorem map_at {α : Type} {f : α → V} {l : List α} {i : Nat} {a : α} (h : l[i]? = some a) : (l.map f)[i]? = some (f a) := by
  rw [List.getElem?_map, h]
  rfl
end Lp
namespace Lp
open PySem PySem.Spec PyProof.Rows L2
/-! ### == and != of lists of ints, of pairs, of None -/
def flatD : PyData → Bool
  | .none => true
  | .bool _ => true
  | .int _ => true
  | _ => false
theorem flat_lay : ∀ {d : PyData}, flatD d = true → d.canLay0 = true ∧ d.depth = 0
  | .none, _ => ⟨by simp only [PyData.canLay0], by simp only [PyData.depth]⟩
  | .bool _, _ => ⟨by simp only [PyData.canLay0], by simp only [PyData.depth]⟩
  | .int _, _ => ⟨by simp only [PyData.canLay0], by simp only [PyData.depth]⟩
  | .str _, h => by cases h
  | .list _, h => by cases h
  | .tuple _, h => by cases h
  | .dict _, h => by cases h
theorem flats_lay : ∀ {ds : List PyData}, ds.all flatD = true → PyData.canLayAll0 ds = true ∧ PyData.depthAll ds = 0
  | [], _ => ⟨by simp only [PyData.canLayAll0], by simp only [PyData.depthAll]⟩
  | d :: ds, h => by
    rw [List.all_cons, Bool.and_eq_true] at h
    obtain ⟨h1, h2⟩ := flat_lay h.1
    obtain ⟨h3, h4⟩ := flats_lay h.2
    refine ⟨?_, ?_⟩
    · simp only [PyData.canLayAll0, h1, h3]; rfl
    · simp only [PyData.depthAll, h2, h4]; rfl
theorem shaped_flat {d : PyData} (h : flatD d = true) : SeqAt.shaped d = true := by
  obtain ⟨h1, h2⟩ := flat_lay h
  unfold SeqAt.shaped
  rw [h1, h2]
  rfl
theorem shaped_list {ds : List PyData} (h : ds.all flatD = true) : SeqAt.shaped (.list ds) = true := by
  obtain ⟨h1, h2⟩ := flats_lay h
  unfold SeqAt.shaped
  simp only [PyData.canLay0, PyData.depth, h1, h2]
  rfl
theorem shaped_tup {ds : List PyData} (h : ds.all flatD = true) : SeqAt.shaped (.tuple ds) = true := by
  obtain ⟨h1, h2⟩ := flats_lay h
  unfold SeqAt.shaped
  simp only [PyData.canLay0, PyData.depth, h1, h2]
  rfl
def intsD (ns : List Int) : PyData := .list (ns.map .int)
theorem ints_flat (ns : List Int) : (ns.map PyData.int).all flatD = true := by
  rw [List.all_map]
  exact List.all_eq_true.mpr fun _ _ => rfl
theorem shaped_ints (ns : List Int) : SeqAt.shaped (intsD ns) = true := shaped_list (ints_flat ns)
theorem eqvAll_ints : ∀ a b : List Int, PyData.eqvAll (a.map .int) (b.map .int) = decide (a = b)
  | [], [] => by simp [PyData.eqvAll]
  | [], _ :: _ => by simp [PyData.eqvAll]
  | _ :: _, [] => by simp [PyData.eqvAll]
  | x :: a, y :: b => by
    rw [List.map_cons, List.map_cons, PyData.eqvAll, eqvAll_ints a b, PyData.eqv]
    by_cases h : x = y
    · subst h
      simp
    · simp [h]
theorem eqv_ints (a b : List Int) : PyData.eqv (intsD a) (intsD b) = decide (a = b) := by
  unfold intsD
  rw [PyData.eqv]
  exact eqvAll_ints a b
section
variable {K : PySem.W.Frag} {H : Hp}
theorem dpAll_ints : ∀ ns : List Int, DpAll K H (ns.map V.int) (ns.map PyData.int)
  | [] => .nil
  | n :: ns => .cons (.int n) (dpAll_ints ns)
theorem dp_ints {a : Addr} {ns : List Int} (h : SqL K H a (ns.map V.int)) : Dp K H (.ref a) (intsD ns) := .lst h (dpAll_ints ns)
theorem ne_ints {a b : Addr} {ns ms : List Int} {Q : VK} (h1 : SqL K H a (ns.map V.int)) (h2 : SqL K H b (ms.map V.int)) (q : Q (.bl (!decide (ns = ms))) H) : rNeD K (.ref a) (.ref b) H Q :=
  ⟨_, _, dp_ints h1, dp_ints h2, shaped_ints _, shaped_ints _, by rw [eqv_ints]; exact q⟩
theorem eq_ints {a b : Addr} {ns ms : List Int} {Q : VK} (h1 : SqL K H a (ns.map V.int)) (h2 : SqL K H b (ms.map V.int)) (q : Q (.bl (decide (ns = ms))) H) : rEqD K (.ref a) (.ref b) H Q :=
  ⟨_, _, dp_ints h1, dp_ints h2, shaped_ints _, shaped_ints _, by rw [eqv_ints]; exact q⟩
end
end Lp
namespace Lp
open PySem L2
def top (i : Nat) : Stmt := PySem.Challenge.pw_lastpiece_k14_who_is_refused.main.body.getD i (.Pass ⟨0, 0, 0, 0⟩)
abbrev c_DishError : Stmt := top 1
abbrev c_NoTable : Stmt := top 2
abbrev c_NoDish : Stmt := top 3
abbrev c_NoSeat : Stmt := top 4
abbrev c_NoShares : Stmt := top 5
abbrev c_NoNumber : Stmt := top 6
abbrev c_NoPair : Stmt := top 7
abbrev s_is_within : Stmt := top 10
abbrev s_is_guest : Stmt := top 11
abbrev s_is_table : Stmt := top 12
abbrev s_need_table : Stmt := top 13
abbrev s_need_dish : Stmt := top 14
abbrev s_need_seat : Stmt := top 15
abbrev s_need_number : Stmt := top 16
abbrev s_need_shares : Stmt := top 17
abbrev c_Going : Stmt := top 19
abbrev s_Going_init : Stmt := inClass (top 19) 0
abbrev s_Going_would_take : Stmt := inClass (top 19) 1
abbrev s_Going_rounds : Stmt := inClass (top 19) 2
abbrev s_Going_visit : Stmt := inClass (top 19) 3
abbrev s_Going_go : Stmt := inClass (top 19) 4
abbrev s_rested : Stmt := top 20
abbrev s_need_asked : Stmt := top 21
abbrev s_shares : Stmt := top 22
abbrev s_left : Stmt := top 23
abbrev s_taker : Stmt := top 24
abbrev s_least_true : Stmt := top 26
abbrev s_least_with : Stmt := top 27
abbrev s_gains : Stmt := top 28
abbrev s_least_of_all : Stmt := top 29
abbrev s_dishes : Stmt := top 30
abbrev s_least_dish : Stmt := top 31
abbrev s_need_seen : Stmt := top 33
abbrev s_with_guest : Stmt := top 34
abbrev s_courtesies : Stmt := top 35
abbrev s_enoughs : Stmt := top 36
abbrev s_is_small : Stmt := top 40
abbrev s_parted : Stmt := top 41
abbrev s_law_cell_at : Stmt := top 43
abbrev s_law_draws : Stmt := top 44
abbrev s_law_bag : Stmt := top 45
abbrev s_law_bags : Stmt := top 46
abbrev s_law_take : Stmt := top 47
abbrev s_law_far_draw : Stmt := top 48
abbrev s_law_table : Stmt := top 49
abbrev s_law_refused : Stmt := top 50
abbrev s_law_asked : Stmt := top 51
abbrev s_law_kin_of : Stmt := top 52
abbrev s_law_pairs_refused : Stmt := top 53
abbrev s_law : Stmt := top 54
end Lp
namespace Lp
open PySem PySem.Spec PyProof.Rows L2 LamX NdefX
/-! ### values that are called: lambdas and defs made within a def -/
/-- a lambda's object at f, told by the words of F and its expression b -/
def FnL (f : Addr) (F : NF) (b : Expr) : HO := .ext fun hp => ∃ (pm tup : Value), hp.get? f = some (PySem.W.kla_obj F.name F.qual F.params b F.scope F.cl pm F.c tup)
section
variable {X : Cx} {pins : List (Addr × Obj)} {σ : L2.St} {H HZ : Hp} {s : Shared} {cl cl' : List (Str × Addr)} {fr fr' : List Str} {ws : List (Option V)} {js : List Nat}
theorem fnL_at {P : Program} {w : World} {hp : Heap} {f : Addr} {F : NF} {b : Expr} (ok : HOk P w H hp) (e : H f = some (FnL f F b)) : ∃ (pm tup : Value), hp.get? f = some (PySem.W.kla_obj F.name F.qual F.params b F.scope F.cl pm F.c tup) := by
  obtain ⟨q, _, _⟩ := ok f _ e
  exact q
theorem inv_lam {F : NF} {b : Expr} {tk : Nat} {pm tup : Value} (I : Inv X pins σ H s) :
    Inv X pins σ (upd H s.heap.objs.size (FnL s.heap.objs.size F b)) { s with heap := s.heap.push (PySem.W.kla_obj F.name F.qual F.params b F.scope F.cl pm F.c tup), toks := tk } := by
  have e : (s.heap.push (PySem.W.kla_obj F.name F.qual F.params b F.scope F.cl pm F.c tup)).get? s.heap.objs.size = some (PySem.W.kla_obj F.name F.qual F.params b F.scope F.cl pm F.c tup) := Heap.get?_push_size _ rfl
  exact I.laid (a := s.heap.objs.size) (fun x u q => Heap.get?_push_of_some _ q) (Nat.le_refl _) ⟨⟨pm, tup, e⟩, ⟨_, e⟩, fun h1 h2 ⟨pm', tup', z⟩ st => ⟨pm', tup', st _ z⟩⟩
/-- what the cells hold goes on to a later state of which they are no part -/
theorem cells_move {fs : List Addr} {hp hq : Heap} (C : CellsAt cl fr ws hp H) (u : Un fs [] H HZ hp hq) : CellsAt cl fr ws hq HZ := by
  have go : ∀ (a : Addr), H a = none → ∀ v, hp.IsCell a v → hq.IsCell a v := fun a n v ⟨o, ho, hd⟩ => by
    obtain ⟨sl, z⟩ := u.any ho n (by simp)
    exact ⟨_, z, hd⟩
  refine ⟨C.len, fun y a e => ?_, C.inj, fun i y e => ?_⟩
  · obtain ⟨n, v, z⟩ := C.all y a e
    refine ⟨?_, v, go a n v z⟩
    obtain ⟨o, ho, _⟩ := z
    exact u.free a o ho n (by simp)
  · obtain ⟨a, ha, hv⟩ := C.has i y e
    refine ⟨a, ha, fun v ev => ?_⟩
    obtain ⟨x, r, z⟩ := hv v ev
    exact ⟨x, r, go a (C.all y a ha).1 _ z⟩
/-- the cells of a function that captured some of them -/
theorem cells_sub (C : CellsAt cl fr ws s.heap H) (h1 : ∀ y a, cl'.lookup y = some a → cl.lookup y = some a) (h2 : ∀ y ∈ fr', ∀ a, cl.lookup y = some a → cl'.lookup y = some a) (h3 : js.map (fun j => fr[j]?) = fr'.map some) :
    CellsAt cl' fr' (js.map (slotAt ws)) s.heap H := by
  have hl := congrArg List.length h3
  rw [List.length_map, List.length_map] at hl
  refine ⟨by rw [List.length_map]; exact hl, fun y a e => C.all y a (h1 y a e), fun x y a e1 e2 => C.inj x y a (h1 x a e1) (h1 y a e2), fun i y e => ?_⟩
  have q : (js.map fun j => fr[j]?)[i]? = some (some y) := by
    rw [h3, List.getElem?_map, e] <;> rfl
  rw [List.getElem?_map] at q
  cases ej : js[i]? with
  | none => rw [ej] at q; cases q
  | some j =>
    rw [ej] at q
    have hj : fr[j]? = some y := Option.some.inj (show some (fr[j]?) = some (some y) from q)
    obtain ⟨a, ha, hv⟩ := C.has j y hj
    refine ⟨a, h2 y (List.mem_of_getElem? e) a ha, fun v ev => hv v ?_⟩
    rw [List.getElem?_map, ej] at ev
    exact slotAt_some (Option.some.inj (show some (slotAt ws j) = some (some v) from ev))
/-- a lambda is made -/
theorem lam_mk {T : List NTab} {nm : Nat → Nat → Str} {c P : Addr} {params : Arguments} {b : Expr} {sl : Scope} {pos : Pos} {E Q : Value → Shared → Prop} (I : Inv X pins σ H s) (TB : TabB X.base X.mg c P) (hcode : X.env.code = .ref c)
    (mem : (P, nm) ∈ T) (name : nm pos.line pos.col = X.env.qual ++ "<lambda>") (uniq : ∀ p ∈ T, p.1 = P → p.2 = nm) (hT : TabsN T H) (caps : ∀ y ∈ sl.names, y.2 = .free → ∃ c, X.env.cells.lookup y.1 = some c)
    (go : ∀ (f c' : Addr) (H1 : Hp) (s' : Shared), Inv X pins σ H1 s' → ExtN H H1 → (∀ x, H1 x = none → H x = none) → TabsN T H1 → H1 f = some (FnL f ⟨"<lambda>", X.env.qual ++ "<lambda>", params, [], sl, cloFrom X.env.cells sl.names [], c'⟩ b) → H1 c' = some (CodeO c' (X.env.qual ++ "<lambda>")) → Q (.ref f) s') :
    wpAny (model X.prog X.w) X.A (makeFunction "<lambda>" (X.env.qual ++ "<lambda>") params (.expr b) sl X.env [] [] [] pos pos.line) Q E s := by
  obtain ⟨ps, hP, trip, among⟩ := (show TabN H P nm from hT _ mem)
  have blt := TB.bm.keeps I.bk
  have hP' := I.hok P _ hP
  cases fnd : codeAmong pos ps.toList with
  | some cv =>
    obtain ⟨c', rfl, hco⟩ := among pos cv fnd
    rw [name] at hco
    refine PySem.W.kla_makeFunctionHit (mg := X.mg) (c := c) (P := P) (ps := ps) (closure_ok caps) I.ok.glob (I.mod.glob.keeps I.bk) hcode (TB.code.keeps I.bk) hP' trip fnd blt fun tup h' tk keep hsz => ?_
    have J : Inv X pins σ H { s with heap := h', toks := tk } := I.kept keep
    have new : H h'.objs.size = none := J.hok.fresh (Nat.le_refl _)
    have J2 := inv_lam (F := ⟨"<lambda>", X.env.qual ++ "<lambda>", params, [], sl, cloFrom X.env.cells sl.names [], c'⟩) (b := b) (tk := tk) (pm := (X.mg "__name__").getD .none) (tup := tup) J
    refine go h'.objs.size c' _ _ J2 (fun x o e _ => ?_) (fun x e => upd_none e) (hT.ext fun x o e => ?_) upd_same ?_
    · exact (upd_ne (ne_of_none e new)).trans e
    · exact (upd_ne (ne_of_none e new)).trans e
    · exact (upd_ne (ne_of_none hco new)).trans hco
  | none =>
    refine PySem.W.kla_makeFunction (mg := X.mg) (c := c) (P := P) (ps := ps) (closure_ok caps) I.ok.glob (I.mod.glob.keeps I.bk) hcode (TB.code.keeps I.bk) hP' trip fnd TB.gP blt fun c' tup h' tk keep above below rec tab => ?_
    obtain ⟨_, oc, vs, t, eq, hoc, hd, hv⟩ := rec
    cases eq
    have new := I.hok.fresh above
    have J := inv_table (t' := tk) (more := #[rawInt pos.line, rawInt pos.col, .ref c']) (h' := h') I hP (fun x o hx e => keep x o hx e) tab above ⟨oc, vs, t, hoc, hd, hv⟩
    have grown : ExtN H (upd (upd H P (.tbl (ps ++ #[rawInt pos.line, rawInt pos.col, .ref c']))) c' (CodeO c' (X.env.qual ++ "<lambda>"))) := fun x o e no => by
      rw [upd_ne (ne_of_none e new), upd_ne (fun z => no ps (Option.some.inj (e.symm.trans (by rw [z]; exact hP))))]
      exact e
    have asList : (ps ++ #[rawInt pos.line, rawInt pos.col, .ref c']).toList = ps.toList ++ [rawInt pos.line, rawInt pos.col, .ref c'] := by simp
    have hT1 : TabsN T (upd (upd H P (.tbl (ps ++ #[rawInt pos.line, rawInt pos.col, .ref c']))) c' (CodeO c' (X.env.qual ++ "<lambda>"))) := fun p hp => by
      by_cases same : p.1 = P
      · rw [uniq p hp same, same]
        refine ⟨_, by rw [upd_ne (ne_of_none hP new), upd_same], by rw [asList]; exact PySem.TriplesOk_snoc _ _ _ _ trip, fun p' cv q => ?_⟩
        rw [asList] at q
        rcases among_app2 _ trip q with z | ⟨z, z1, z2⟩
        · obtain ⟨c0, a1, a2⟩ := among p' cv z
          exact ⟨c0, a1, grown _ _ a2 codeO_ne⟩
        · refine ⟨c', z, ?_⟩
          rw [← z1, ← z2, name]
          exact upd_same
      · obtain ⟨qs, a1, a2, a3⟩ := hT p hp
        refine ⟨qs, by rw [upd_ne (ne_of_none a1 new), upd_ne same]; exact a1, a2, fun p' cv q => ?_⟩
        obtain ⟨c0, b1, b2⟩ := a3 p' cv q
        exact ⟨c0, b1, grown _ _ b2 codeO_ne⟩
    have newF := J.hok.fresh (Nat.le_refl _)
    have J2 := inv_lam (F := ⟨"<lambda>", X.env.qual ++ "<lambda>", params, [], sl, cloFrom X.env.cells sl.names [], c'⟩) (b := b) (tk := tk) (pm := (X.mg "__name__").getD .none) (tup := tup) J
    refine go h'.objs.size c' _ _ J2 (fun x o e no => ?_) (fun x e => upd_none (upd_none (upd_none e))) (hT1.ext fun x o e => ?_) upd_same ?_
    · have e1 := grown x o e no
      exact (upd_ne (ne_of_none e1 newF)).trans e1
    · exact (upd_ne (ne_of_none e newF)).trans e
    · exact (upd_ne (Nat.ne_of_lt below)).trans upd_same
end
/-- the reading of «lambda ..: b», handed on -/
def tLamE (T : List NTab) (mk : Addr → NF) (b : Expr) : TE := fun _ H Q => TabsN T H ∧ ∀ (f c' : Addr) (H1 : Hp), ExtN H H1 → (∀ x, H1 x = none → H x = none) → TabsN T H1 → H1 f = some (FnL f (mk c') b) → H1 c' = some (CodeO c' (mk c').qual) → Q (.ref f) H1
theorem pe_lam {X : Cx} {T : List NTab} {nm : Nat → Nat → Str} {c P : Addr} {params : Arguments} {b : Expr} {sl : Scope} {pos : Pos} (TB : TabB X.base X.mg c P) (hcode : X.env.code = .ref c) (mem : (P, nm) ∈ T) (name : nm pos.line pos.col = X.env.qual ++ "<lambda>") (uniq : ∀ p ∈ T, p.1 = P → p.2 = nm)
    (caps : ∀ y ∈ sl.names, y.2 = .free → X.env.scope.names.lookup y.1 = some .cell ∨ X.env.scope.names.lookup y.1 = some .free) (hdef : defaultsOf params X.env = ([], [])) :
    PE X (.Lambda params b sl pos) (tLamE T (fun c' => ⟨"<lambda>", X.env.qual ++ "<lambda>", params, [], sl, cloFrom X.env.cells sl.names [], c'⟩) b) := by
  refine ⟨fun pins s σ H Q I ⟨hT, h⟩ => PySem.W.kla_eval hdef (lam_mk I TB hcode mem name uniq hT (fun y hy e => (caps y hy e).elim (fun z => I.ok.has _ (.inl z)) fun z => I.ok.has _ (.inr z)) fun f c' H1 s' J e1 e0 e2 e3 e4 => ?_)⟩
  exact ⟨.ref f, H1, J, rfl, h f c' H1 e1 e0 e2 e3 e4⟩
/-! ### what a called value promises -/
/-- f may be called where kn is known of the heap and the cells cl hold ws -/
def VOk (P : Program) (w : World) (K : PySem.W.Frag) (mg : Str → Option Value) (base : Heap) (k : Nat) (kn : Hp → Prop) (f : Addr) (cl : List (Str × Addr)) (fr : List Str) (sp : List (Option V) → Sp) : Prop :=
  ∀ (A : Around) (outer : List Env) (s : Shared) (H : Hp) (us : List Value) (vs : List V) (ws : List (Option V)) (Q : VK), Room k A → Env0 P w K mg base A outer s H → kn H → CellsAt cl fr ws s.heap H → Vals vs us → sp ws vs H Q L2.E0 →
    codeAny (model P w) A (.call (.ref f) ⟨us, []⟩) (CR L2.CX0 outer P w H s Q L2.E0) s
/-- what is known of a lambda, of a def made within a def -/
def KnL (f : Addr) (F : NF) (b : Expr) (H : Hp) : Prop := H f = some (FnL f F b) ∧ H F.c = some (CodeO F.c F.qual)
def KnN (f : Addr) (F : NF) (H : Hp) : Prop := H f = some (FnO f F) ∧ H F.c = some (CodeO F.c F.qual)
section
variable {P : Program} {w : World} {K : PySem.W.Frag} {mg : Str → Option Value} {base : Heap} {k j : Nat} {kn : Hp → Prop} {f : Addr} {F : NF} {b : Expr} {cl : List (Str × Addr)} {fr frL ps N : List Str} {js : List Nat} {sp : List (Option V) → Sp}
theorem vok_nok {sp' : List (Option V) → Sp} (o : NOk P w K mg base L2.CX0 k f F ps frL sp') (h1 : ∀ y a, F.cl.lookup y = some a → cl.lookup y = some a) (h2 : ∀ y ∈ frL, ∀ a, cl.lookup y = some a → F.cl.lookup y = some a) (h3 : js.map (fun j => fr[j]?) = frL.map some) :
    VOk P w K mg base k (KnN f F) f cl fr (fun ws => sp' (js.map (slotAt ws))) := fun A outer s H us vs ws Q hr e0 kn C r q =>
  o.run A outer s H us vs _ Q L2.E0 hr e0 kn.1 kn.2 (cells_sub C h1 h2 h3) r q
/-- a lambda by its expression -/
theorem vok_lam (S : NScope N ps frL F.scope) (hb : ∀ (pm tup : Value) (us : List Value), us.length = ps.length → bindArgs (PySem.W.kla_fn F.name F.qual F.params b F.scope F.cl pm (.ref F.c) tup) ⟨us, []⟩ = pure (ps.zip us)) (len : ∀ ws vs H Q E, sp ws vs H Q E → vs.length = ps.length)
    (h1 : ∀ y a, F.cl.lookup y = some a → cl.lookup y = some a) (h2 : ∀ y ∈ frL, ∀ a, cl.lookup y = some a → F.cl.lookup y = some a) (h3 : js.map (fun j => fr[j]?) = frL.map some)
    (body : ∀ (A : Around) (outer : List Env) (s : Shared) (H : Hp) (vs : List V) (ws : List (Option V)) (Q : VK), Room k (A.deeper (envF F f s.heap.objs.size)) → KnL f F b H → CellsAt cl fr ws s.heap H → sp ws vs H Q L2.E0 →
      ∃ t, PE (ncx L2.CX0 P w K mg base N F f A outer s H L2.E0) b t ∧ t (startF N vs (js.map (slotAt ws))) H Q) :
    VOk P w K mg base (k + 1) (KnL f F b) f cl fr sp := fun A outer s H us vs ws Q hr e0 kn C r q => by
  have hl := len _ _ _ _ _ q
  have lim : s.heap.NoLimit := e0.mod.nolimit.keeps fun x o e => (e0.bs x o e).1
  obtain ⟨pm, tup, ho⟩ := fnL_at e0.hok kn.1
  refine PySem.W.kla_callFunE hr.depth ho rfl S.co S.gen rfl (codeO_at e0.hok kn.2) ?_
  rw [hb pm tup us (by rw [← r.length]; exact hl)]
  refine wpAny_pure (wpAny_newFunctionEnv S.nocell (fun ⟨n, _⟩ hy => S.par n (List.of_mem_zip hy).1) (fun h₁ ns sb => ⟨lim.fresh _ sb, ?_⟩) S.kind)
  show codeAny _ _ (.expr b (envF F f s.heap.objs.size)) _ _
  have keep : ∀ x o, s.heap.get? x = some o → h₁.get? x = some o := fun x o e => sb.extBut x o (Nat.ne_of_lt (Heap.lt_size e)) (Heap.get?_push_of_some _ e)
  obtain ⟨t, ht, hq⟩ := body A outer s H vs ws Q (hr.deeper _) kn C q
  have J : Inv (ncx L2.CX0 P w K mg base N F f A outer s H L2.E0) [] (startF N vs (js.map (slotAt ws))) H { s with heap := h₁, toks := s.toks + (ps.zip us).length } := inv_startN S hr.hd e0 hl r (cells_sub C h1 h2 h3) ns keep
  refine PySem.W.kla_codeExpr (wpAny_mono (ht.run [] _ _ H Q J hq) (fun v s' z => ?_) fun e s' z => z)
  obtain ⟨x, H', J', rv, q'⟩ := z
  exact ⟨x, H', J'.os, J'.bare, J'.base, J'.hok, rv, q'⟩
end
/-- f(..), f the value that a name holds -/
def tCallW (i : Nat) (kn : Hp → Prop) (f : Addr) (sp : Sp) (t : TA) : TE := fun σ H Q => σ[i]? = some (some (.ref f)) ∧ kn H ∧ t σ H fun vs H1 => kn H1 ∧ sp vs H1 Q L2.E0
section
variable {X : Cx} {k j i : Nat} {kn : Hp → Prop} {f : Addr} {cl : List (Str × Addr)} {fr : List Str} {ws : List (Option V)} {sp : List (Option V) → Sp} {x : Str} {t : TA} {e : Expr} {es : List Expr} {p pos : Pos}
theorem fnAtL {P : Program} {w : World} {hp : Heap} {H : Hp} {F : NF} {b : Expr} (ok : HOk P w H hp) (q : KnL f F b H) : PySem.W.FnAt f hp := by
  obtain ⟨pm, tup, ho⟩ := fnL_at ok q.1
  exact ⟨_, _, _, _, ho⟩
theorem fnAtN {P : Program} {w : World} {hp : Heap} {H : Hp} {F : NF} (ok : HOk P w H hp) (q : KnN f F H) : PySem.W.FnAt f hp := by
  obtain ⟨od, sl, doc, pm, tup, ho⟩ := fnO_at ok q.1
  exact ⟨_, od, _, sl, ho⟩
theorem pe_callW (V : VOk X.prog X.w X.K X.mg X.base k kn f cl fr sp) (fa : ∀ (hp : Heap) (H : Hp), HOk X.prog X.w H hp → kn H → PySem.W.FnAt f hp) (C : CellsAt cl fr ws X.s_0.heap X.H_0) (hex : X.ex = []) (hr : Room j X.A) (hN : X.N[i]? = some x) (hv : Vis X.env.scope x) (ha : PA X (e :: es) t) (hk : k ≤ j)
    (hd : (x == ("__debug__" : Str)) = false := by decide) (hcd : (x == ("__classdict__" : Str)) = false := by decide)
    (he : starEach (e :: es) X.env = (false, eval e X.env) :: starEach es X.env := by rfl) (hpl : (backTo pos (starEach es X.env)).any (·.1) = false := by rfl) :
    PE X (.Call (.Name x p) (e :: es) [] pos) (tCallW i kn f (sp ws) t) := by
  refine ⟨fun pins s σ H Q I ⟨hs, hf, ht⟩ => ?_⟩
  refine wpAny_Call_Name_kw (thn ((pe_var (pos := p) hN hv hd hcd).run pins s σ H (fun v H1 => v = .ref f ∧ H1 = H) I ⟨.ref f, hs, rfl, rfl⟩) fun u s1 ⟨v, H1, I1, r1, ev, eH⟩ => ?_)
  subst ev
  subst eH
  obtain rfl : u = Value.ref f := r1
  refine PySem.W.callWith_F (first := []) (fa _ _ I1.hok hf) (thn (ha.run pos pins s1 σ H1 _ I1 ht) fun us s2 ⟨vs, H2, I2, r, h1, q⟩ => ⟨fa _ _ I2.hok h1, ?_⟩) he hpl
  show wpAny _ _ (call (.ref f) us) _ _ _
  have u2 := I2.base
  rw [hex] at u2
  refine wpAny_call (codeAny_mono (V X.A X.stack s2 H2 us vs ws Q (hr.mono hk) I2.env0 h1 (cells_move C u2) r q) fun r s' hq => ?_)
  cases r with
  | error e => exact (show False from hq).elim
  | ok fl =>
    cases fl with
    | ret u => exact I2.after hq
    | next => exact False.elim hq
    | brk => exact False.elim hq
    | cont => exact False.elim hq
end
/-! ### a def whose code object is known -/
structure FunC (K : PySem.W.Frag) (x qual : Str) (st : Stmt) (f c : Addr) (fd : FuncData) : Prop where
  ex : ∃ (oc : Value) (od : Option Addr) (kV doc pm : Value) (an : Option Addr) (ct : Value) (osl : Array (Option Value)),
    fd = PySem.W.fnOf x qual (defArgs st) (defBody st) (defScope st) .none kV doc pm an (.ref c) ct ∧ K.lookup f = some ⟨oc, od, .func fd, osl⟩ ∧ PySem.W.codeIn K (.ref c) qual = true
  kp : PySem.W.keepIn K (.ref f) = true
theorem FunC.fn {K : PySem.W.Frag} {x qual : Str} {st : Stmt} {f c : Addr} {fd : FuncData} (F : FunC K x qual st f c fd) : L2.Fun K x qual st f fd := by
  obtain ⟨oc, od, kV, doc, pm, an, ct, osl, h⟩ := F.ex
  exact ⟨⟨oc, od, kV, doc, pm, an, .ref c, ct, osl, h⟩, F.kp⟩
theorem FunC.ok {P : Program} {w : World} {K : PySem.W.Frag} {mg : Str → Option Value} {base : Heap} {x qual : Str} {st : Stmt} {f c : Addr} {fd : FuncData} {N ps : List Str} {k : Nat} {sp : Sp} (F : FunC K x qual st f c fd) (S : FnScope N ps (defScope st)) (ln : ∀ vs H Q E, sp vs H Q E → vs.length = ps.length)
    (go : ∀ (A : Around) (outer : List Env) (s : Shared) (H : Hp) (vs : List V) (Q : VK) (E : XK), Room k (A.deeper (envOfC qual (defScope st) s.heap.objs.size f (.ref c))) → sp vs H Q E →
      ∃ t, PSs (cxOf L2.CX0 P w K mg base N qual (defScope st) f (.ref c) A outer s H E).nox (defBody st) t ∧ t { nx := fun _ H' => Q .non H', rt := Q } (L2.start N vs) H) : FnOk P w K mg base L2.CX0 (k + 1) f fd ps sp := by
  obtain ⟨oc, od, kV, doc, pm, an, ct, osl, rfl, lk, hcd⟩ := F.ex
  exact fn_of lk hcd S ln fun A outer s H vs Q E hr hsp => (go A outer s H vs Q E hr hsp).imp fun t h => ⟨h.1.nox, h.2⟩
/-! ### a lambda's words -/
def lastArg : Expr → Expr
  | .Call _ es _ _ => es.getLastD (.Constant .none 0 ⟨0, 0, 0, 0⟩)
  | e => e
def retOf : Stmt → Expr
  | .Return (some e) _ => e
  | .Assign _ e _ => e
  | _ => .Constant .none 0 ⟨0, 0, 0, 0⟩
def lamB : Expr → Expr
  | .Lambda _ b _ _ => b
  | e => e
def lamA : Expr → Arguments
  | .Lambda a _ _ _ => a
  | _ => { posonlyargs := [], args := [], vararg := none, kwonlyargs := [], kw_defaults := [], kwarg := none, defaults := [] }
def lamS : Expr → Scope
  | .Lambda _ _ sc _ => sc
  | _ => { kind := .function, names := [], isGenerator := false, isCoroutine := false }
/-- which of the maker's cells it captures -/
def capB (sc sl : Scope) (fr : List Str) : Bool := sl.names.all (fun y => !decide (y.2 = .free) || decide (sc.names.lookup y.1 = some .cell)) && fr.all (fun y => decide ((y, NameKind.free) ∈ sl.names))
theorem cap_cell {sc sl : Scope} {fr : List Str} (h : capB sc sl fr = true) : ∀ y ∈ sl.names, y.2 = .free → sc.names.lookup y.1 = some .cell := fun y hy e => by
  unfold capB at h
  rw [Bool.and_eq_true, List.all_eq_true] at h
  have := h.1 y hy
  rw [e] at this
  simpa using this
theorem cap_fr {sc sl : Scope} {fr : List Str} (h : capB sc sl fr = true) : ∀ y ∈ fr, (y, NameKind.free) ∈ sl.names := fun y hy => by
  unfold capB at h
  rw [Bool.and_eq_true, List.all_eq_true, List.all_eq_true] at h
  simpa using h.2 y hy
theorem cap_sub {sc sl : Scope} {fr : List Str} {n : Nat} (h : capB sc sl fr = true) : ∀ y a, (cloFrom (cellsFrom n sc.names []) sl.names []).lookup y = some a → (cellsFrom n sc.names []).lookup y = some a := fun _ _ e =>
  clo_cm (fun y hy e => cell_has (cap_cell h y hy e)) e
theorem cap_sup {sc sl : Scope} {fr : List Str} {n : Nat} (h : capB sc sl fr = true) : ∀ y ∈ fr, ∀ a, (cellsFrom n sc.names []).lookup y = some a → (cloFrom (cellsFrom n sc.names []) sl.names []).lookup y = some a := fun y hy a e =>
  clo_has (fun y hy e => cell_has (cap_cell h y hy e)) (cap_fr h y hy) e
/-- the tables that a def with one lambda asks for -/
structure TabIn (T : List NTab) (P : Addr) (nm : Nat → Nat → Str) : Prop where
  mem : (P, nm) ∈ T
  uniq : ∀ p ∈ T, p.1 = P → p.2 = nm
end Lp
namespace Lp
open PySem PySem.Spec PyProof.Rows L2 LamX NdefX
/-! ### least_true -/
/-- what is asked of the test between lo and hi, and what comes of it -/
def LTok (lo hi : Int) (good : Int → Bool) (sp : Sp) (H : Hp) (Q : VK) : Prop :=
  lo ≤ hi ∧ (∀ (m : Int) (H' : Hp) (Q' : VK), Same H H' → lo ≤ m → m < hi → (∀ H'', Same H' H'' → Q' (.bl (good m)) H'') → sp [.int m] H' Q' L2.E0) ∧
  (∀ m n : Int, lo ≤ m → m ≤ n → n < hi → good m = true → good n = true) ∧
  ∀ (r : Int) (H' : Hp), Same H H' → lo ≤ r → r ≤ hi → (∀ m, lo ≤ m → m < r → good m = false) → (∀ m, r ≤ m → m < hi → good m = true) → Q (.int r) H'
structure CalLT (P : Program) (w : World) (K : PySem.W.Frag) (mg : Str → Option Value) (base : Heap) (x : Str) : Prop where
  ex : ∃ g : Addr, mg x = some (.ref g) ∧ PySem.W.keepIn K (.ref g) = true ∧ ∀ (k : Nat) (A : Around) (outer : List Env) (s : Shared) (H : Hp) (us : List Value) (lo hi : Int) (f : Addr) (kn : Hp → Prop) (cl : List (Str × Addr)) (fr : List Str) (ws : List (Option V)) (sp : List (Option V) → Sp) (good : Int → Bool) (Q : VK),
    Room (k + 1) A → Env0 P w K mg base A outer s H → Vals [.int lo, .int hi, .ref f] us → VOk P w K mg base k kn f cl fr sp → (∀ (hp : Heap) (H : Hp), HOk P w H hp → kn H → PySem.W.FnAt f hp) → (∀ H H' : Hp, Same H H' → kn H → kn H') → kn H → CellsAt cl fr ws s.heap H → LTok lo hi good (sp ws) H Q →
    codeAny (model P w) A (.call (.ref g) ⟨us, []⟩) (CR L2.CX0 outer P w H s Q L2.E0) s
section
variable {P : Program} {w : World} {K : PySem.W.Frag} {mg : Str → Option Value} {base : Heap}
theorem sc_least_true : FnScope ["low", "high", "good", "middle"] ["low", "high", "good"] (defScope s_least_true) := ⟨rfl, rfl, rfl, by decide +kernel, rfl, by decide +kernel, by decide +kernel⟩
theorem lt_run {g : Addr} {fd : FuncData} (F : L2.Fun K "least_true" "least_true" s_least_true g fd) (hm : mg "least_true" = some (.ref g)) : CalLT P w K mg base "least_true" := by
  have bd : Binds K fd ["low", "high", "good"] [] := F.binds (fun _ _ _ _ _ _ us hl => match us, hl with | [_, _, _], _ => rfl)
  have kp := F.kp
  obtain ⟨oc, od, kV, doc, pm, an, cdv, ct, osl, rfl, lk, hcd⟩ := F.ex
  refine ⟨g, hm, kp, fun k A outer s H us lo hi f kn cl fr ws sp good Q hr e0 r vok fa st kH C ok => ?_⟩
  have KX : K.In s.heap := e0.mod.kin.keeps fun b o e => (e0.bs b o e).1
  have hb := bd s us KX (by rw [List.append_nil, ← r.length]; rfl)
  rw [List.append_nil] at hb
  refine run_ofS (ps := ["low", "high", "good"]) (us := us) (vs := [.int lo, .int hi, .ref f]) lk hcd sc_least_true hr e0 hb r rfl fun hr' => ?_
  refine ⟨_, PSs.nox (pss_cons (ps_while PassesOwn.never (pt_cmpR op_lt (pv 0) (pv 1) (nomark _))
      (pss_cons (ps_set (i := 3) sc_least_true.nd rfl (Or.inl rfl) (pe_op op_fdiv (pe_op op_add (pv 0) (pv 1)) pe_int))
      (pss_one (ps_if (pt_val (pe_callW (i := 2) vok fa C rfl hr' rfl (Or.inl rfl) (pa_cons (pv 3) pa_nil) (Nat.le_refl _)))
      (pss_one (ps_set (i := 1) sc_least_true.nd rfl (Or.inl rfl) (pv 3)))
      (pss_one (ps_set (i := 0) sc_least_true.nd rfl (Or.inl rfl) (pe_op op_add (pv 3) pe_int)))))))
      (pss_one (ps_ret (pv 0)))), ?_⟩
  obtain ⟨le, test, mono, done⟩ := ok
  refine ⟨fun n σ H' => ∃ (lo' hi' : Int) (v3 : Option V), σ = [some (.int lo'), some (.int hi'), some (.ref f), v3] ∧ Same H H' ∧ lo ≤ lo' ∧ lo' ≤ hi' ∧ hi' ≤ hi ∧ (∀ m, lo ≤ m → m < lo' → good m = false) ∧ (∀ m, hi' ≤ m → m < hi → good m = true) ∧ n = (hi' - lo').toNat,
    ⟨_, lo, hi, none, rfl, Same.refl _, Int.le_refl _, le, Int.le_refl _, fun m h1 h2 => by omega, fun m h1 h2 => by omega, rfl⟩, ?_⟩
  rintro n σ H' ⟨lo', hi', v3, rfl, s', l1, l2, l3, bad, gd, rfl⟩
  refine ⟨_, rfl, _, rfl, _, _, rfl, rfl, _, rfl, ?_⟩
  refine ite2 (fun c => ?_) (fun c => ?_)
  · have lt := of_decide_eq_true c
    refine ⟨fun σ' H'' => ∃ m', m' < (hi' - lo').toNat ∧ ∃ (lo2 hi2 : Int) (v3 : Option V), σ' = [some (.int lo2), some (.int hi2), some (.ref f), v3] ∧ Same H H'' ∧ lo ≤ lo2 ∧ lo2 ≤ hi2 ∧ hi2 ≤ hi ∧ (∀ m, lo ≤ m → m < lo2 → good m = false) ∧ (∀ m, hi2 ≤ m → m < hi → good m = true) ∧ m' = (hi2 - lo2).toNat, fun _ _ h => h, ?_⟩
    refine ⟨_, rfl, _, rfl, _, _, rfl, rfl, _, _, rfl, rfl, ⟨by decide, by decide⟩, ?_⟩
    have b1 : lo' ≤ (lo' + hi') / 2 ∧ (lo' + hi') / 2 < hi' := by omega
    refine ⟨rfl, st _ _ s' kH, _, rfl, st _ _ s' kH, test ((lo' + hi') / 2) H' _ s' (by omega) (by omega) fun H2 s2 => ⟨_, rfl, ?_⟩⟩
    have s3 := Same.trans s' s2
    cases e : good ((lo' + hi') / 2) with
    | true => exact iteT ⟨_, rfl, ((lo' + hi') / 2 - lo').toNat, by omega, lo', (lo' + hi') / 2, _, rfl, s3, l1, b1.1, by omega, bad, fun m h1 h2 => mono _ m (by omega) h1 h2 e, rfl⟩
    | false =>
      refine iteF ⟨_, rfl, _, _, rfl, rfl, (hi' - ((lo' + hi') / 2 + 1)).toNat, by omega, (lo' + hi') / 2 + 1, hi', _, rfl, s3, by omega, by omega, l3, fun m h1 h2 => ?_, gd, rfl⟩
      cases e' : good m with
      | false => rfl
      | true => rw [mono m _ h1 (by omega) (by omega) e'] at e; cases e
  · have ge : ¬ lo' < hi' := fun z => c (decide_eq_true z)
    obtain rfl : lo' = hi' := by omega
    exact ⟨_, rfl, done lo' H' s' l1 l3 bad gd⟩
end
/-- least_true(lo, hi, lambda ..: b) -/
def tLT (mk : Addr → NF) (b : Expr) (js : List Nat) (sp : List (Option V) → Sp) (t : TA) : TE := fun σ H Q => t σ H fun vs H1 => ∃ (lo hi : Int) (f c' : Addr) (good : Int → Bool), vs = [.int lo, .int hi, .ref f] ∧ KnL f (mk c') b H1 ∧ LTok lo hi good (sp (js.map (slotAt σ))) H1 Q
theorem pe_lt {X : Cx} {k j : Nat} {x : Str} {mk : Addr → NF} {b : Expr} {js : List Nat} {fr : List Str} {sp : List (Option V) → Sp} {t : TA} {p pos : Pos} {e : Expr} {es : List Expr} (c : CalLT X.prog X.w X.K X.mg X.base x) (V : ∀ f c', VOk X.prog X.w X.K X.mg X.base k (KnL f (mk c') b) f X.env.cells fr sp) (cp : X.Ok → Caps X X.env.cells fr js)
    (hr : Room j X.A) (hk : k + 1 ≤ j) (ha : PA X (e :: es) t) (hg : Gl X x := by rfl) (hdb : (x == ("__debug__" : Str)) = false := by decide) (he : starEach (e :: es) X.env = (false, eval e X.env) :: starEach es X.env := by rfl) (hpl : (backTo pos (starEach es X.env)).any (·.1) = false := by rfl) :
    PE X (.Call (.Name x p) (e :: es) [] pos) (tLT mk b js sp t) := by
  obtain ⟨g, hm, kp, run⟩ := c.ex
  refine ⟨fun pins s σ H Q I h => wpAny_Call_Name_kw (ld_glob I hg hm ?_ hdb)⟩
  refine PySem.W.callWith_K (h₀ := X.base) I.ok.mod.kin kp (thn (ha.run pos pins s σ H _ I h) fun us s1 ⟨vs, H1, I1, r, lo, hi, f, c', good, ev, kn, ok⟩ => ⟨I1.kIn, ?_⟩) he hpl
  subst ev
  refine wpAny_call (codeAny_mono (run k X.A X.stack s1 H1 us lo hi f _ _ fr _ sp good Q (hr.mono hk) I1.env0 r (V f c') (fun hp H ok q => fnAtL ok q) (fun H H' st q => ⟨st _ _ q.1, st _ _ q.2⟩) kn (cells_of I1 (cp I1.ok)) ok) fun r s' hq => ?_)
  cases r with
  | error e => exact (show False from hq).elim
  | ok fl =>
    cases fl with
    | ret u => exact I1.after hq
    | next => exact False.elim hq
    | brk => exact False.elim hq
    | cont => exact False.elim hq
end Lp
namespace Lp
open PySem PySem.Spec PyProof.Rows L2
/-! ### tables: what is_table tells of data -/
def withinD (lo hi : Int) : PyData → Bool
  | .int i => decide (lo ≤ i) && decide (i ≤ hi)
  | _ => false
def enoughD : PyData → Bool
  | .none => true
  | e => withinD 0 1000000000000000000 e
def guestD : PyData → Bool
  | .tuple [c, e] => withinD 0 1000000000000000000 c && enoughD e
  | _ => false
def tableD : PyData → Bool
  | .tuple gs => decide (1 ≤ gs.length) && decide (gs.length ≤ 8) && gs.all guestD
  | _ => false
def spWithin (K : PySem.W.Frag) : Sp := fun vs H Q _ => ∃ (v : V) (lo hi : Int) (d : PyData), vs = [v, .int lo, .int hi] ∧ Dp K H v d ∧ Q (.bl (withinD lo hi d)) H
def spGuest (K : PySem.W.Frag) : Sp := fun vs H Q _ => ∃ (v : V) (d : PyData), vs = [v] ∧ Dp K H v d ∧ Q (.bl (guestD d)) H
def spTable (K : PySem.W.Frag) : Sp := fun vs H Q _ => ∃ (v : V) (d : PyData), vs = [v] ∧ Dp K H v d ∧ ∀ H', Same H H' → Q (.bl (tableD d)) H'
/-- the module's GREATEST -/
def Greatest (mg : Str → Option Value) : Prop := ∃ v, mg "GREATEST" = some v ∧ RelV (.int 1000000000000000000) v
section
variable {P : Program} {w : World} {K : PySem.W.Frag} {mg : Str → Option Value} {base : Heap}
theorem sc_is_within : FnScope ["thing", "low", "high"] ["thing", "low", "high"] (defScope s_is_within) := ⟨rfl, rfl, rfl, by decide +kernel, rfl, by decide +kernel, by decide +kernel⟩
theorem ok_is_within {f : Addr} {fd : FuncData} (F : L2.Fun K "is_within" "is_within" s_is_within f fd) (B : Bls mg) : FnOk P w K mg base L2.CX0 1 f fd ["thing", "low", "high"] (spWithin K) := by
  refine F.ok sc_is_within (fun vs H Q E h => ?_) (fun cdv A outer s H vs Q E hr h => ?_)
  · obtain ⟨v, lo, hi, d, rfl, _⟩ := h
    rfl
  · obtain ⟨v, lo, hi, d, rfl, hd, k⟩ := h
    refine ⟨_, (pss_one (ps_ret (pe_and (pe_isi B (pv 0) (pe_tInt B)) (pe_and (pe_not (pe_isi B (pv 0) (pe_tBool B))) (pe_one (pe_chain op_le op_le (pv 1) (pv 0) (pv 2))))))), ?_⟩
    refine ⟨_, rfl, ?_⟩
    cases hd with
    | non => 
      refine ⟨_, _, _, _, _, rfl, .ty _, tyx .non, kit_i _ _, ?_⟩
      exact ⟨_, rfl, iteF k⟩
    | str x => 
      refine ⟨_, _, _, _, _, rfl, .ty _, tyx (.str x), kit_i _ _, ?_⟩
      exact ⟨_, rfl, iteF k⟩
    | lst hs ha => 
      refine ⟨_, _, _, _, _, rfl, .ty _, tyx (.lst hs ha), kit_i _ _, ?_⟩
      exact ⟨_, rfl, iteF k⟩
    | tup hs ha => 
      refine ⟨_, _, _, _, _, rfl, .ty _, tyx (.tup hs ha), kit_i _ _, ?_⟩
      exact ⟨_, rfl, iteF k⟩
    | bl b => 
      refine ⟨_, _, _, _, _, rfl, .ty _, tyx (.bl b), kit_i _ _, ?_⟩
      refine ⟨_, rfl, iteT ⟨_, rfl, ?_⟩⟩
      refine ⟨_, _, _, _, _, rfl, .ty _, tyx (.bl b), kit_b _ _, ?_⟩
      exact ⟨_, rfl, _, rfl, iteF k⟩
    | int i =>
      refine ⟨_, _, _, _, _, rfl, .ty _, tyx (.int i), kit_i _ _, ?_⟩
      refine ⟨_, rfl, iteT ⟨_, rfl, ?_⟩⟩
      refine ⟨_, _, _, _, _, rfl, .ty _, tyx (.int i), kit_b _ _, ?_⟩
      refine ⟨_, rfl, _, rfl, iteT ?_⟩
      refine ⟨_, rfl, _, rfl, _, _, rfl, rfl, _, rfl, ?_⟩
      have k' : Q (.bl (decide (lo ≤ i) && decide (i ≤ hi))) H := k
      refine ite2 (fun c => ?_) (fun c => ?_)
      · rw [c, Bool.true_and] at k'
        exact ⟨_, rfl, _, _, rfl, rfl, k'⟩
      · rw [Bool.eq_false_iff.mpr c, Bool.false_and] at k'
        exact k'
theorem sc_is_guest : FnScope ["thing"] ["thing"] (defScope s_is_guest) := ⟨rfl, rfl, rfl, by decide +kernel, rfl, by decide +kernel, by decide +kernel⟩
theorem ok_is_guest {f : Addr} {fd : FuncData} (F : L2.Fun K "is_guest" "is_guest" s_is_guest f fd) (B : Bls mg) (G : Greatest mg) (c_is_within : Cal P w K mg base 1 "is_within" (spWithin K)) : FnOk P w K mg base L2.CX0 2 f fd ["thing"] (spGuest K) := by
  refine F.ok sc_is_guest (fun vs H Q E h => ?_) (fun cdv A outer s H vs Q E hr h => ?_)
  · obtain ⟨v, d, rfl, _⟩ := h
    rfl
  · obtain ⟨v, d, rfl, hd, k⟩ := h
    obtain ⟨gv, h_GREATEST, r_GREATEST⟩ := G
    refine ⟨_, (pss_cons (ps_if (PW.pt (pw_or (pt_not (pt_val (pe_isi B (pv 0) (pe_tTuple B)))) (pw_or (pt_cmpR op_ne (pe_len B (pv 0)) pe_int (nomark _)) (pw_or1 (pt_not (pt_val (pe_g c_is_within hr (pa_cons (pe_ix ix_tup (pv 0) pe_int (fun _ _ => rfl)) (pa_cons pe_int (pa_cons (pe_glob (by rfl) h_GREATEST r_GREATEST) pa_nil))))))))))
      (pss_one (ps_ret pe_bl))
      pss_nil)
      (pss_one (ps_ret (pe_or (pe_cmpR op_isN (pe_ix ix_tup (pv 0) pe_int (fun _ _ => rfl)) pe_non (nomark _)) (pe_one (pe_g c_is_within hr (pa_cons (pe_ix ix_tup (pv 0) pe_int (fun _ _ => rfl)) (pa_cons pe_int (pa_cons (pe_glob (by rfl) h_GREATEST r_GREATEST) pa_nil))))))))), ?_⟩
    refine ⟨_, rfl, ?_⟩
    cases hd with
    | non => 
      refine ⟨_, _, _, _, _, rfl, .ty _, tyx .non, kit_t _ _, ?_⟩
      exact ⟨_, rfl, iteT (iteT k)⟩
    | bl b => 
      refine ⟨_, _, _, _, _, rfl, .ty _, tyx (.bl b), kit_t _ _, ?_⟩
      exact ⟨_, rfl, iteT (iteT k)⟩
    | int i => 
      refine ⟨_, _, _, _, _, rfl, .ty _, tyx (.int i), kit_t _ _, ?_⟩
      exact ⟨_, rfl, iteT (iteT k)⟩
    | str x => 
      refine ⟨_, _, _, _, _, rfl, .ty _, tyx (.str x), kit_t _ _, ?_⟩
      exact ⟨_, rfl, iteT (iteT k)⟩
    | lst hs ha => 
      refine ⟨_, _, _, _, _, rfl, .ty _, tyx (.lst hs ha), kit_t _ _, ?_⟩
      exact ⟨_, rfl, iteT (iteT k)⟩
    | @tup a xs ds hs ha =>
      refine ⟨_, _, _, _, _, rfl, .ty _, tyx (.tup hs ha), kit_t _ _, ?_⟩
      refine ⟨_, rfl, iteF ?_⟩
      refine ⟨_, rfl, a, xs, rfl, .inr hs, rfl, _, rfl, ?_⟩
      cases ha with
      | nil => exact iteT (iteT k)
      | @cons v0 vs0 d0 ds0 h0 ha =>
        cases ha with
        | nil => exact iteT (iteT k)
        | @cons v1 vs1 d1 ds1 h1 ha =>
          cases ha with
          | @cons v2 vs2 d2 ds2 h2 ha =>
            have e : (decide (V.int ((v0 :: v1 :: v2 :: vs2).length : Nat) = V.int 2)) = false := by
              rw [dec_int]
              simp
              omega
            rw [e]
            exact iteT (iteT k)
          | nil =>
            refine iteF ⟨_, rfl, a, _, _, v0, rfl, rfl, hs, rfl, ⟨v0, 0, 1000000000000000000, d0, rfl, h0, ?_⟩⟩
            have k' : Q (.bl (withinD 0 1000000000000000000 d0 && enoughD d1)) H := k
            refine ⟨_, rfl, ?_⟩
            cases ew : withinD 0 1000000000000000000 d0 with
            | false =>
              rw [ew, Bool.false_and] at k'
              exact iteT k'
            | true =>
              rw [ew, Bool.true_and] at k'
              refine iteF ⟨_, rfl, a, _, _, v1, rfl, rfl, hs, rfl, rfl, _, rfl, ?_⟩
              cases h1 with
              | non => exact iteT k'
              | bl b => exact iteF ⟨_, rfl, a, _, _, _, rfl, rfl, hs, rfl, ⟨_, _, _, _, rfl, .bl b, k'⟩⟩
              | int b => exact iteF ⟨_, rfl, a, _, _, _, rfl, rfl, hs, rfl, ⟨_, _, _, _, rfl, .int b, k'⟩⟩
              | str b => exact iteF ⟨_, rfl, a, _, _, _, rfl, rfl, hs, rfl, ⟨_, _, _, _, rfl, .str b, k'⟩⟩
              | lst g1 g2 => exact iteF ⟨_, rfl, a, _, _, _, rfl, rfl, hs, rfl, ⟨_, _, _, _, rfl, .lst g1 g2, k'⟩⟩
              | tup g1 g2 => exact iteF ⟨_, rfl, a, _, _, _, rfl, rfl, hs, rfl, ⟨_, _, _, _, rfl, .tup g1 g2, k'⟩⟩
theorem dp_same {H H' : Hp} (s : Same H H') : (∀ {v : V} {d : PyData}, Dp K H v d → Dp K H' v d) ∧ ∀ {vs : List V} {ds : List PyData}, DpAll K H vs ds → DpAll K H' vs ds := by
  have key : ∀ (n : Nat), (∀ (d : PyData) (v : V), sizeOf d < n → Dp K H v d → Dp K H' v d) ∧ ∀ (ds : List PyData) (vs : List V), sizeOf ds < n → DpAll K H vs ds → DpAll K H' vs ds := by
    intro n
    induction n with
    | zero => exact ⟨fun _ _ h => absurd h (Nat.not_lt_zero _), fun _ _ h => absurd h (Nat.not_lt_zero _)⟩
    | succ n ih =>
      refine ⟨fun d v hn h => ?_, fun ds vs hn h => ?_⟩
      · cases h with
        | non => exact .non
        | bl b => exact .bl b
        | int i => exact .int i
        | str x => exact .str x
        | lst hs ha => exact .lst (s.seq hs) (ih.2 _ _ (by simp only [PyData.list.sizeOf_spec] at hn; omega) ha)
        | tup hs ha => exact .tup (Same.sqt s hs) (ih.2 _ _ (by simp only [PyData.tuple.sizeOf_spec] at hn; omega) ha)
      · cases h with
        | nil => exact .nil
        | cons h1 h2 =>
          simp only [List.cons.sizeOf_spec] at hn
          exact .cons (ih.1 _ _ (by omega) h1) (ih.2 _ _ (by omega) h2)
  exact ⟨fun {v d} h => (key (sizeOf d + 1)).1 d v (Nat.lt_succ_self _) h, fun {vs ds} h => (key (sizeOf ds + 1)).2 ds vs (Nat.lt_succ_self _) h⟩
theorem dpAll_get {H : Hp} : ∀ {vs : List V} {ds : List PyData} {i : Nat} {v : V}, DpAll K H vs ds → vs[i]? = some v → ∃ d, ds[i]? = some d ∧ Dp K H v d
  | _, _, _, _, .nil, e => by simp at e
  | _, _, 0, _, .cons h _, e => by simp at e; subst e; exact ⟨_, rfl, h⟩
  | _, _, i + 1, v, .cons _ h, e => by
    obtain ⟨d, h1, h2⟩ := dpAll_get (i := i) h (by simpa using e)
    exact ⟨d, by simpa using h1, h2⟩
theorem dpAll_len {H : Hp} : ∀ {vs : List V} {ds : List PyData}, DpAll K H vs ds → vs.length = ds.length
  | _, _, .nil => rfl
  | _, _, .cons _ h => congrArg Nat.succ (dpAll_len h)
theorem sc_is_table : FnScope ["thing", "one"] ["thing"] (defScope s_is_table) := ⟨rfl, rfl, rfl, by decide +kernel, rfl, by decide +kernel, by decide +kernel⟩
theorem ok_is_table {f : Addr} {fd : FuncData} (F : L2.Fun K "is_table" "is_table" s_is_table f fd) (B : Bls mg) (c_is_guest : Cal P w K mg base 2 "is_guest" (spGuest K)) : FnOk P w K mg base L2.CX0 3 f fd ["thing"] (spTable K) := by
  refine F.ok sc_is_table (fun vs H Q E h => ?_) (fun cdv A outer s H vs Q E hr h => ?_)
  · obtain ⟨v, d, rfl, _⟩ := h
    rfl
  · obtain ⟨v, d, rfl, hd, k⟩ := h
    have kF : tableD d = false → Q (.bl false) H := fun e => by
      rw [← e]; exact k H (Same.refl H)
    refine ⟨_, (pss_one (ps_ret (pe_and (pe_isi B (pv 0) (pe_tTuple B)) (pe_and (pe_chain op_le op_le pe_int (pe_len B (pv 0)) pe_int) (pe_one (pe_callB (cr_all rfl) (by rfl) B.all (by decide +kernel) (pa_cons (pe_lc (own := [("one", 1)]) (g := gName 1)  (tt := tYes) (by rfl) sc_is_table.nd (pi_tup (pv 0)) (blkOk_by (own := [("one", 1)]) (N := ["thing", "one"]) (sc := defScope s_is_table) (by decide +kernel)) (fun _ _ _ _ _ => by exact (pg_name (i := 1) sc_is_table.nd rfl (Or.inl rfl))) (fun _ _ _ _ _ => by exact pts_nil) (fun _ _ _ _ _ => by exact (pe_g c_is_guest hr (pa_cons (pv 1) pa_nil)))) pa_nil))))))), ?_⟩
    refine ⟨_, rfl, ?_⟩
    cases hd with
    | non => exact ⟨_, _, _, _, _, rfl, .ty _, tyx .non, kit_t _ _, _, rfl, iteF (kF rfl)⟩
    | bl b => exact ⟨_, _, _, _, _, rfl, .ty _, tyx (.bl b), kit_t _ _, _, rfl, iteF (kF rfl)⟩
    | int i => exact ⟨_, _, _, _, _, rfl, .ty _, tyx (.int i), kit_t _ _, _, rfl, iteF (kF rfl)⟩
    | str x => exact ⟨_, _, _, _, _, rfl, .ty _, tyx (.str x), kit_t _ _, _, rfl, iteF (kF rfl)⟩
    | lst hs ha => exact ⟨_, _, _, _, _, rfl, .ty _, tyx (.lst hs ha), kit_t _ _, _, rfl, iteF (kF rfl)⟩
    | @tup a xs ds hs ha =>
      refine ⟨_, _, _, _, _, rfl, .ty _, tyx (.tup hs ha), kit_t _ _, _, rfl, iteT ?_⟩
      have el := dpAll_len ha
      refine ⟨_, rfl, a, xs, rfl, .inr hs, _, _, rfl, rfl, _, rfl, ?_⟩
      refine ite2 (fun c1 => ?_) (fun c1 => ?_)
      · have l1 : 1 ≤ ds.length := by have := of_decide_eq_true c1; omega
        refine ⟨_, _, rfl, rfl, _, rfl, ?_⟩
        refine ite2 (fun c2 => ?_) (fun c2 => ?_)
        · have l2 : ds.length ≤ 8 := by have := of_decide_eq_true c2; omega
          refine ⟨_, rfl, a, rfl, ⟨_, hs⟩, fun D hD => ?_⟩
          refine lc_tup (K := K) (a := a) (xs := xs) (fun i H' => Same H H' ∧ H' D = some (.lst ((ds.take i).map fun d => V.bl (guestD d)))) ⟨same_upd hD, upd_same⟩ (fun i H' _ h => Same.sqt h.1 hs) ?_ ?_
          · rintro i x H' hi ⟨sm, hl⟩
            obtain ⟨d, e1, e2⟩ := dpAll_get ha hi
            refine ⟨rfl, ?_⟩
            have l8 : i < ds.length := by rw [← el]; exact (List.getElem?_eq_some_iff.mp hi).1
            refine ⟨_, rfl, x, d, rfl, (dp_same sm).1 e2, _, hl, by rw [List.length_map, List.length_take]; exact small1000 (by omega), fun b o e => ?_, ?_⟩
            · rw [upd_ne (ne_of_none e hD)]
              exact sm b o e
            · rw [upd_same, List.take_add_one, e1, List.map_append]
              rfl
          · rintro H' ⟨sm, hl⟩
            refine ⟨D, ds.map guestD, rfl, SqL.of ?_, ?_⟩
            · rw [hl, el, List.take_length, List.map_map]
              rfl
            · have e : tableD (.tuple ds) = (ds.map guestD).all id := by
                show (decide (1 ≤ ds.length) && decide (ds.length ≤ 8) && ds.all guestD) = _
                rw [decide_eq_true l1, decide_eq_true l2, List.all_map]
                rfl
              rw [← e]
              exact k H' sm
        · exact kF (by
            show (decide (1 ≤ ds.length) && decide (ds.length ≤ 8) && ds.all guestD) = false
            rw [show decide (ds.length ≤ 8) = false from decide_eq_false (by intro q; exact c2 (decide_eq_true (by omega)))]
            simp)
      · exact ⟨_, rfl, iteF (kF (by
          show (decide (1 ≤ ds.length) && decide (ds.length ≤ 8) && ds.all guestD) = false
          rw [show decide (1 ≤ ds.length) = false from decide_eq_false (by intro q; exact c1 (decide_eq_true (by omega)))]
          simp))⟩
end
end Lp
namespace Lp
open PySem PySem.Spec PyProof.Rows L2
/-! ### tables as data -/
abbrev Guest := Int × Option Int
def optD : Option Int → PyData
  | none => .none
  | some m => .int m
def optV : Option Int → V
  | none => .non
  | some m => .int m
def tabD (t : List Guest) : PyData := .tuple (t.map fun g => .tuple [.int g.1, optD g.2])
def TabOk (t : List Guest) : Prop := 1 ≤ t.length ∧ t.length ≤ 8 ∧ ∀ g ∈ t, 0 ≤ g.1 ∧ g.1 ≤ 1000000000000000000 ∧ ∀ m, g.2 = some m → 0 ≤ m ∧ m ≤ 1000000000000000000
theorem guestD_ok {g : Guest} (h : 0 ≤ g.1 ∧ g.1 ≤ 1000000000000000000 ∧ ∀ m, g.2 = some m → 0 ≤ m ∧ m ≤ 1000000000000000000) : guestD (.tuple [.int g.1, optD g.2]) = true := by
  obtain ⟨c, e⟩ := g
  obtain ⟨h1, h2, h3⟩ := h
  show (decide (0 ≤ c) && decide (c ≤ 1000000000000000000) && enoughD (optD e)) = true
  rw [decide_eq_true h1, decide_eq_true h2]
  cases e with
  | none => rfl
  | some m =>
    obtain ⟨h4, h5⟩ := h3 m rfl
    show (decide (0 ≤ m) && decide (m ≤ 1000000000000000000)) = true
    rw [decide_eq_true h4, decide_eq_true h5]
    rfl
theorem tableD_ok {t : List Guest} (h : TabOk t) : tableD (tabD t) = true := by
  obtain ⟨h1, h2, h3⟩ := h
  show (decide (1 ≤ (t.map _).length) && decide ((t.map _).length ≤ 8) && (t.map _).all guestD) = true
  rw [List.length_map, decide_eq_true h1, decide_eq_true h2, List.all_map]
  exact List.all_eq_true.mpr fun g hg => guestD_ok (h3 g hg)
section
variable {P : Program} {w : World} {K : PySem.W.Frag} {mg : Str → Option Value} {base : Heap}
abbrev TableAt (K : PySem.W.Frag) (H : Hp) (a : Addr) (t : List Guest) : Prop := Dp K H (.ref a) (tabD t)
/-- the guests' tuples -/
theorem TableAt.open {H : Hp} {a : Addr} {t : List Guest} (h : TableAt K H a t) :
    ∃ xs : List V, SqT K H a xs ∧ xs.length = t.length ∧ ∀ (i : Nat) (g : Guest), t[i]? = some g → ∃ p : Addr, xs[i]? = some (.ref p) ∧ SqT K H p [.int g.1, optV g.2] := by
  cases h with
  | @tup _ xs _ hs ha =>
    have hl := dpAll_len ha
    rw [List.length_map] at hl
    refine ⟨xs, hs, hl, fun i g hg => ?_⟩
    have hi : i < xs.length := by rw [hl]; exact (List.getElem?_eq_some_iff.mp hg).1
    obtain ⟨d, h1, h2⟩ := dpAll_get (v := xs[i]) ha (List.getElem?_eq_getElem hi)
    rw [List.getElem?_map, hg] at h1
    obtain rfl := (Option.some.inj h1).symm
    rw [List.getElem?_eq_getElem hi]
    generalize xs[i] = v at h2 ⊢
    cases h2 with
    | @tup p ys _ hp hq =>
      refine ⟨p, rfl, ?_⟩
      cases hq with
      | cons q1 q2 =>
        cases q2 with
        | cons q3 q4 =>
          cases q4
          cases q1
          obtain ⟨c, e⟩ := g
          cases e with
          | none => cases q3; exact hp
          | some m => cases q3; exact hp
theorem TableAt.mk {H : Hp} {a : Addr} {t : List Guest} {ps : List Addr} (h : SqT K H a (ps.map V.ref)) (hl : ps.length = t.length) (hg : ∀ (i : Nat) (g : Guest) (p : Addr), t[i]? = some g → ps[i]? = some p → SqT K H p [.int g.1, optV g.2]) : TableAt K H a t := by
  refine .tup h ?_
  clear h
  induction t generalizing ps with
  | nil =>
    cases ps with
    | nil => exact .nil
    | cons _ _ => simp at hl
  | cons g t ih =>
    cases ps with
    | nil => simp at hl
    | cons p ps =>
      refine .cons (.tup (hg 0 g p rfl rfl) ?_) (ih (by simpa using hl) fun i g' p' h1 h2 => hg (i + 1) g' p' (by simpa using h1) (by simpa using h2))
      obtain ⟨c, e⟩ := g
      cases e with
      | none => exact .cons (.int c) (.cons .non .nil)
      | some m => exact .cons (.int c) (.cons (.int m) .nil)
theorem TableAt.same {H H' : Hp} {a : Addr} {t : List Guest} (h : TableAt K H a t) (s : Same H H') : TableAt K H' a t := (dp_same s).1 h
end
end Lp
namespace Lp
open PySem PySem.Spec PyProof.Rows L2
section
variable {P : Program} {w : World} {K : PySem.W.Frag} {mg : Str → Option Value} {base : Heap}
/-! ### the looks ahead: none refuses what is right -/
def spNeedTable (K : PySem.W.Frag) : Sp := fun vs H Q _ => ∃ (a : Addr) (t : List Guest), vs = [.ref a] ∧ TableAt K H a t ∧ TabOk t ∧ ∀ H', Same H H' → Q .non H'
theorem sc_need_table : FnScope ["table"] ["table"] (defScope s_need_table) := ⟨rfl, rfl, rfl, by decide +kernel, rfl, by decide +kernel, by decide +kernel⟩
theorem ok_need_table {f : Addr} {fd : FuncData} (F : L2.Fun K "need_table" "need_table" s_need_table f fd) (B : Bls mg) (c_is_table : Cal P w K mg base 3 "is_table" (spTable K)) : FnOk P w K mg base L2.CX0 4 f fd ["table"] (spNeedTable K) := by
  refine F.ok sc_need_table (fun vs H Q E h => ?_) (fun cdv A outer s H vs Q E hr h => ?_)
  · obtain ⟨a, t, rfl, _⟩ := h
    rfl
  · obtain ⟨a, t, rfl, hd, ho, k⟩ := h
    refine ⟨_, (pss_one (ps_if (pt_not (pt_val (pe_g c_is_table hr (pa_cons (pv 0) pa_nil))))
      (pss_one ps_never)
      pss_nil)), ?_⟩
    refine ⟨_, rfl, _, _, rfl, hd, fun H' sm => ⟨_, rfl, ?_⟩⟩
    rw [tableD_ok ho]
    exact iteF (k H' sm)
end
end Lp
namespace Lp
open PySem PySem.Spec PyProof.Rows L2
section
variable {P : Program} {w : World} {K : PySem.W.Frag} {mg : Str → Option Value} {base : Heap}
def spNeedDish : Sp := fun vs H Q _ => ∃ i : Int, vs = [.int i] ∧ 0 ≤ i ∧ i ≤ 1000000000000000000 ∧ Q .non H
theorem sc_need_dish : FnScope ["dish"] ["dish"] (defScope s_need_dish) := ⟨rfl, rfl, rfl, by decide +kernel, rfl, by decide +kernel, by decide +kernel⟩
theorem ok_need_dish {f : Addr} {fd : FuncData} (F : L2.Fun K "need_dish" "need_dish" s_need_dish f fd) (B : Bls mg) (G : Greatest mg) (c_is_within : Cal P w K mg base 1 "is_within" (spWithin K)) : FnOk P w K mg base L2.CX0 2 f fd ["dish"] spNeedDish := by
  refine F.ok sc_need_dish (fun vs H Q E h => ?_) (fun cdv A outer s H vs Q E hr h => ?_)
  · obtain ⟨i, rfl, _⟩ := h
    rfl
  · obtain ⟨i, rfl, h0, h1, k⟩ := h
    obtain ⟨gv, h_GREATEST, r_GREATEST⟩ := G
    refine ⟨_, (pss_one (ps_if (pt_not (pt_val (pe_g c_is_within hr (pa_cons (pv 0) (pa_cons pe_int (pa_cons (pe_glob (by rfl) h_GREATEST r_GREATEST) pa_nil))))))
      (pss_one ps_never)
      pss_nil)), ?_⟩
    refine ⟨_, rfl, _, _, _, _, rfl, .int i, ⟨_, rfl, ?_⟩⟩
    show if (!(decide (0 ≤ i) && decide (i ≤ 1000000000000000000))) = true then _ else _
    rw [decide_eq_true h0, decide_eq_true h1]
    exact iteF k
def spNeedSeat (K : PySem.W.Frag) : Sp := fun vs H Q _ => ∃ (a : Addr) (xs : List V) (i : Nat), vs = [.ref a, .int i] ∧ SqT K H a xs ∧ i < xs.length ∧ Q .non H
theorem sc_need_seat : FnScope ["table", "seat"] ["table", "seat"] (defScope s_need_seat) := ⟨rfl, rfl, rfl, by decide +kernel, rfl, by decide +kernel, by decide +kernel⟩
theorem ok_need_seat {f : Addr} {fd : FuncData} (F : L2.Fun K "need_seat" "need_seat" s_need_seat f fd) (B : Bls mg) (c_is_within : Cal P w K mg base 1 "is_within" (spWithin K)) : FnOk P w K mg base L2.CX0 2 f fd ["table", "seat"] (spNeedSeat K) := by
  refine F.ok sc_need_seat (fun vs H Q E h => ?_) (fun cdv A outer s H vs Q E hr h => ?_)
  · obtain ⟨a, xs, i, rfl, _⟩ := h
    rfl
  · obtain ⟨a, xs, i, rfl, hs, hi, k⟩ := h
    refine ⟨_, (pss_one (ps_if (pt_not (pt_val (pe_g c_is_within hr (pa_cons (pv 1) (pa_cons pe_int (pa_cons (pe_op op_sub (pe_len B (pv 0)) pe_int) pa_nil))))))
      (pss_one ps_never)
      pss_nil)), ?_⟩
    refine ⟨_, rfl, _, rfl, a, xs, rfl, .inr hs, _, _, rfl, rfl, _, _, _, _, rfl, .int _, ⟨_, rfl, ?_⟩⟩
    show if (!(decide ((0 : Int) ≤ i) && decide ((i : Int) ≤ (xs.length : Int) - 1))) = true then _ else _
    rw [decide_eq_true (by omega), decide_eq_true (by omega)]
    exact iteF k
def spNeedAsked (K : PySem.W.Frag) : Sp := fun vs H Q _ => ∃ (a : Addr) (t : List Guest) (i : Int), vs = [.ref a, .int i] ∧ TableAt K H a t ∧ TabOk t ∧ 0 ≤ i ∧ i ≤ 1000000000000000000 ∧ ∀ H', Same H H' → Q .non H'
theorem sc_need_asked : FnScope ["table", "dish"] ["table", "dish"] (defScope s_need_asked) := ⟨rfl, rfl, rfl, by decide +kernel, rfl, by decide +kernel, by decide +kernel⟩
theorem ok_need_asked {f : Addr} {fd : FuncData} (F : L2.Fun K "need_asked" "need_asked" s_need_asked f fd) (B : Bls mg) (c_need_table : Cal P w K mg base 4 "need_table" (spNeedTable K)) (c_need_dish : Cal P w K mg base 2 "need_dish" spNeedDish) : FnOk P w K mg base L2.CX0 5 f fd ["table", "dish"] (spNeedAsked K) := by
  refine F.ok sc_need_asked (fun vs H Q E h => ?_) (fun cdv A outer s H vs Q E hr h => ?_)
  · obtain ⟨a, t, i, rfl, _⟩ := h
    rfl
  · obtain ⟨a, t, i, rfl, hd, ho, h0, h1, k⟩ := h
    refine ⟨_, (pss_cons (ps_expr (pe_g c_need_table hr (pa_cons (pv 0) pa_nil)))
      (pss_one (ps_expr (pe_g c_need_dish hr (pa_cons (pv 1) pa_nil))))), ?_⟩
    exact ⟨_, rfl, _, _, rfl, hd, ho, fun H' sm => ⟨_, rfl, _, rfl, h0, h1, k H' sm⟩⟩
end
end Lp
namespace Lp
open PySem PySem.Spec PyProof.Rows L2
/-! ### the fields of a Going -/
def gfs (a : Addr) (left seat : Int) (l : Addr) (taken visits : Int) : List (Str × V) :=
  [("table", .ref a), ("left", .int left), ("seat", .int seat), ("had", .ref l), ("taken", .int taken), ("visits", .int visits)]
theorem key_look {f : Str} {v : V} {r : List (Str × V)} : List.lookup f ((f, v) :: r) = some v := by simp [List.lookup]
theorem key_skip {f g : Str} {v : V} {r : List (Str × V)} (h : (f == g) = false) : List.lookup f ((g, v) :: r) = List.lookup f r := by simp [List.lookup, h]
section
variable {a l : Addr} {x s k v : Int}
theorem gf_table : (gfs a x s l k v).lookup ("table" : Str) = some (.ref a) := key_look
theorem gf_left : (gfs a x s l k v).lookup ("left" : Str) = some (.int x) := by
  unfold gfs; rw [key_skip (by decide +kernel)]; exact key_look
theorem gf_seat : (gfs a x s l k v).lookup ("seat" : Str) = some (.int s) := by
  unfold gfs; rw [key_skip (by decide +kernel), key_skip (by decide +kernel)]; exact key_look
theorem gf_had : (gfs a x s l k v).lookup ("had" : Str) = some (.ref l) := by
  unfold gfs; rw [key_skip (by decide +kernel), key_skip (by decide +kernel), key_skip (by decide +kernel)]; exact key_look
theorem gf_taken : (gfs a x s l k v).lookup ("taken" : Str) = some (.int k) := by
  unfold gfs; rw [key_skip (by decide +kernel), key_skip (by decide +kernel), key_skip (by decide +kernel), key_skip (by decide +kernel)]; exact key_look
theorem gf_visits : (gfs a x s l k v).lookup ("visits" : Str) = some (.int v) := by
  unfold gfs; rw [key_skip (by decide +kernel), key_skip (by decide +kernel), key_skip (by decide +kernel), key_skip (by decide +kernel), key_skip (by decide +kernel)]; exact key_look
theorem gf_no {m : Str} (h1 : (m == ("table" : Str)) = false) (h2 : (m == ("left" : Str)) = false) (h3 : (m == ("seat" : Str)) = false) (h4 : (m == ("had" : Str)) = false) (h5 : (m == ("taken" : Str)) = false) (h6 : (m == ("visits" : Str)) = false) :
    (gfs a x s l k v).lookup m = none := by
  unfold gfs; rw [key_skip h1, key_skip h2, key_skip h3, key_skip h4, key_skip h5, key_skip h6]; rfl
theorem put_at {f : Str} {y z : V} {r : List (Str × V)} : putF f y ((f, z) :: r) = (f, y) :: r := if_pos rfl
theorem put_on {f g : Str} {y z : V} {r : List (Str × V)} (h : ¬ g = f) : putF f y ((g, z) :: r) = (g, z) :: putF f y r := if_neg h
theorem gp_left (y : Int) : putF "left" (.int y) (gfs a x s l k v) = gfs a y s l k v := by
  unfold gfs; rw [put_on (by decide +kernel), put_at]
theorem gp_seat (y : Int) : putF "seat" (.int y) (gfs a x s l k v) = gfs a x y l k v := by
  unfold gfs; rw [put_on (by decide +kernel), put_on (by decide +kernel), put_at]
theorem gp_taken (y : Int) : putF "taken" (.int y) (gfs a x s l k v) = gfs a x s l y v := by
  unfold gfs; rw [put_on (by decide +kernel), put_on (by decide +kernel), put_on (by decide +kernel), put_on (by decide +kernel), put_at]
theorem gp_visits (y : Int) : putF "visits" (.int y) (gfs a x s l k v) = gfs a x s l k y := by
  unfold gfs; rw [put_on (by decide +kernel), put_on (by decide +kernel), put_on (by decide +kernel), put_on (by decide +kernel), put_on (by decide +kernel), put_at]
theorem gf_made : putF "visits" (.int v) (putF "taken" (.int k) (putF "had" (.ref l) (putF "seat" (.int s) (putF "left" (.int x) (putF "table" (.ref a) []))))) = gfs a x s l k v := by
  have e0 : ∀ (f : Str) (y : V), putF f y [] = [(f, y)] := fun _ _ => rfl
  have e1 : putF "left" (.int x) ([("table", V.ref a)] : List (Str × V)) = ([("table", V.ref a), ("left", V.int x)] : List (Str × V)) := by rw [put_on (by decide +kernel), e0]
  have e2 : putF "seat" (.int s) ([("table", V.ref a), ("left", V.int x)] : List (Str × V)) = ([("table", V.ref a), ("left", V.int x), ("seat", V.int s)] : List (Str × V)) := by rw [put_on (by decide +kernel), put_on (by decide +kernel), e0]
  have e3 : putF "had" (.ref l) ([("table", V.ref a), ("left", V.int x), ("seat", V.int s)] : List (Str × V)) = ([("table", V.ref a), ("left", V.int x), ("seat", V.int s), ("had", V.ref l)] : List (Str × V)) := by
    rw [put_on (by decide +kernel), put_on (by decide +kernel), put_on (by decide +kernel), e0]
  have e4 : putF "taken" (.int k) ([("table", V.ref a), ("left", V.int x), ("seat", V.int s), ("had", V.ref l)] : List (Str × V)) = ([("table", V.ref a), ("left", V.int x), ("seat", V.int s), ("had", V.ref l), ("taken", V.int k)] : List (Str × V)) := by
    rw [put_on (by decide +kernel), put_on (by decide +kernel), put_on (by decide +kernel), put_on (by decide +kernel), e0]
  have e5 : putF "visits" (.int v) ([("table", V.ref a), ("left", V.int x), ("seat", V.int s), ("had", V.ref l), ("taken", V.int k)] : List (Str × V)) = gfs a x s l k v := by
    rw [put_on (by decide +kernel), put_on (by decide +kernel), put_on (by decide +kernel), put_on (by decide +kernel), put_on (by decide +kernel), e0]
    rfl
  rw [e0, e1, e2, e3, e4, e5]
end
/-- what the top says of the class -/
structure GoT (K : PySem.W.Frag) (C : Addr) : Prop where
  cl : Cls K C
  nt : NoAttr K C "table"
  nl : NoAttr K C "left"
  ns : NoAttr K C "seat"
  nh : NoAttr K C "had"
  nk : NoAttr K C "taken"
  nv : NoAttr K C "visits"
/-- behind the heap H0 a Going stands at p over the table at a, its list at l -/
structure GoAt (C : Addr) (H0 H : Hp) (p a dx l : Addr) (left seat : Int) (hs : List Int) (taken visits : Int) : Prop where
  same : Same H0 H
  newp : H0 p = none
  newl : H0 l = none
  ob : H p = some (.ins C dx (gfs a left seat l taken visits))
  ls : H l = some (.lst (hs.map V.int))
section
variable {C : Addr} {H0 H H' : Hp} {p a dx l : Addr} {left seat : Int} {hs : List Int} {taken visits : Int}
theorem GoAt.ne (G : GoAt C H0 H p a dx l left seat hs taken visits) : p ≠ l := ne_of G.ob G.ls (by intro z; cases z)
theorem GoAt.more (G : GoAt C H0 H p a dx l left seat hs taken visits) (s : Same H H') : GoAt C H0 H' p a dx l left seat hs taken visits :=
  ⟨G.same.trans s, G.newp, G.newl, s _ _ G.ob, s _ _ G.ls⟩
theorem upd_kept {p : Addr} {o : HO} (s : Same H0 H) (n : H0 p = none) : Same H0 (upd H p o) := fun b u e => by
  have hb : b ≠ p := fun z => by rw [z, n] at e; cases e
  rw [upd_ne hb]
  exact s b u e
/-- the object's fields change -/
theorem GoAt.fld (G : GoAt C H0 H p a dx l left seat hs taken visits) (left' seat' taken' visits' : Int) : GoAt C H0 (upd H p (.ins C dx (gfs a left' seat' l taken' visits'))) p a dx l left' seat' hs taken' visits' :=
  ⟨upd_kept G.same G.newp, G.newp, G.newl, upd_same, by rw [upd_ne (Ne.symm G.ne)]; exact G.ls⟩
theorem GoAt.setLeft (G : GoAt C H0 H p a dx l left seat hs taken visits) (y : Int) : GoAt C H0 (upd H p (.ins C dx (putF "left" (.int y) (gfs a left seat l taken visits)))) p a dx l y seat hs taken visits := by
  rw [gp_left]; exact G.fld y seat taken visits
theorem GoAt.setSeat (G : GoAt C H0 H p a dx l left seat hs taken visits) (y : Int) : GoAt C H0 (upd H p (.ins C dx (putF "seat" (.int y) (gfs a left seat l taken visits)))) p a dx l left y hs taken visits := by
  rw [gp_seat]; exact G.fld left y taken visits
theorem GoAt.setTaken (G : GoAt C H0 H p a dx l left seat hs taken visits) (y : Int) : GoAt C H0 (upd H p (.ins C dx (putF "taken" (.int y) (gfs a left seat l taken visits)))) p a dx l left seat hs y visits := by
  rw [gp_taken]; exact G.fld left seat y visits
theorem GoAt.setVisits (G : GoAt C H0 H p a dx l left seat hs taken visits) (y : Int) : GoAt C H0 (upd H p (.ins C dx (putF "visits" (.int y) (gfs a left seat l taken visits)))) p a dx l left seat hs taken y := by
  rw [gp_visits]; exact G.fld left seat taken y
theorem GoAt.had (G : GoAt C H0 H p a dx l left seat hs taken visits) (hs' : List Int) : GoAt C H0 (upd H l (.lst (hs'.map V.int))) p a dx l left seat hs' taken visits :=
  ⟨upd_kept G.same G.newl, G.newp, G.newl, by rw [upd_ne G.ne]; exact G.ob, upd_same⟩
end
theorem map_set (l : List Int) (i : Nat) (v : Int) : (l.map V.int).set i (V.int v) = (l.set i v).map V.int := (List.map_set).symm
theorem GoAt.setHad {C : Addr} {H0 H : Hp} {p a dx l : Addr} {left seat : Int} {hs : List Int} {taken visits : Int} (G : GoAt C H0 H p a dx l left seat hs taken visits) (i : Nat) (v : Int) : GoAt C H0 (upd H l (.lst ((hs.map V.int).set i (.int v)))) p a dx l left seat (hs.set i v) taken visits := by
  rw [map_set]; exact G.had _
theorem getD_of {t : List Guest} {i : Nat} {g : Guest} (h : t[i]? = some g) : D.gs t i = g := by
  show t.getD i (0, none) = g
  rw [List.getD_eq_getElem?_getD, h]
  rfl
theorem get_of {t : List Guest} {i : Nat} (h : i < t.length) : t[i]? = some (D.gs t i) := by
  show t[i]? = some (t.getD i (0, none))
  rw [List.getD_eq_getElem?_getD, List.getElem?_eq_getElem h]
  rfl
theorem at_int {l : List Int} {i : Nat} {v : Int} (h : l[i]? = some v) : atI (l.map V.int) (i : Int) = some (V.int v) := atI_nat (map_at h)
theorem ixN_nat {n i : Nat} (h : i < n) : ixN n (i : Int) = some i := by
  unfold ixN
  rw [if_pos (by omega), if_pos (by omega)]
  simp
section
variable {P : Program} {w : World} {K : PySem.W.Frag} {mg : Str → Option Value} {base : Heap} {C : Addr}
/-! ### would_take -/
def spWould (K : PySem.W.Frag) (C : Addr) : Sp := fun vs H Q _ => ∃ (H0 : Hp) (p a dx l : Addr) (t : List Guest) (s : D.S) (se tk vi : Int) (i : Nat), vs = [.ref p, .int i] ∧ GoAt C H0 H p a dx l s.left se (D.hadL t.length s.had) tk vi ∧
  TableAt K H0 a t ∧ i < t.length ∧ Q (.bl (decide (D.wants (D.gs t) s i))) H
theorem sc_Going_would_take : FnScope ["self", "seat", "courtesy", "enough"] ["self", "seat"] (defScope s_Going_would_take) := ⟨rfl, rfl, rfl, by decide +kernel, rfl, by decide +kernel, by decide +kernel⟩
theorem ok_would {f : Addr} {fd : FuncData} (F : L2.Fun K "would_take" "Going.would_take" s_Going_would_take f fd) (T : GoT K C) : FnOk P w K mg base L2.CX0 1 f fd ["self", "seat"] (spWould K C) := by
  refine F.ok sc_Going_would_take (fun vs H Q E h => ?_) (fun cdv A outer s H vs Q E hr h => ?_)
  · obtain ⟨H0, p, a, dx, l, t, s, se, tk, vi, i, rfl, _⟩ := h
    rfl
  · obtain ⟨H0, p, a, dx, l, t, s, se, tk, vi, i, rfl, G, tb, hi, k⟩ := h
    refine ⟨_, (pss_cons (ps_asg (pe_ix ix_tup (pe_fld (pv 0) rfl) (pv 1) (fun _ _ => rfl)) (pg_tup (by rfl) (pgs_cons (pg_name (i := 2) sc_Going_would_take.nd rfl (Or.inl rfl)) (pgs_cons (pg_name (i := 3) sc_Going_would_take.nd rfl (Or.inl rfl)) pgs_nil))))
      (pss_one (ps_ret (pe_and (pe_cmpR op_gt (pe_fld (pv 0) rfl) (pv 2) (nomark _)) (pe_one (pe_or (pe_cmpR op_isN (pv 3) pe_non (nomark _)) (pe_one (pe_cmpR op_lt (pe_ix ix_list (pe_fld (pv 0) rfl) (pv 1) (fun _ _ => rfl)) (pv 3) (nomark _))))))))), ?_⟩
    obtain ⟨xs, hx, hl, hg⟩ := (tb.same G.same).open
    obtain ⟨q, e1, hq⟩ := hg i _ (get_of hi)
    refine ⟨_, rfl, p, C, dx, _, _, rfl, G.ob, T.cl, T.nt, gf_table, _, rfl, a, xs, _, _, rfl, rfl, hx, atI_nat e1, ?_⟩
    refine ⟨q, _, rfl, hq, rfl, _, _, rfl, _, _, rfl, rfl, ?_⟩
    refine ⟨_, rfl, p, C, dx, _, _, rfl, G.ob, T.cl, T.nl, gf_left, _, rfl, _, _, rfl, rfl, _, rfl, ?_⟩
    refine ite2 (fun c1 => ?_) (fun c1 => ?_)
    · have l1 := of_decide_eq_true c1
      refine ⟨_, rfl, rfl, _, rfl, ?_⟩
      cases e : (D.gs t i).2 with
      | none =>
        refine iteT ?_
        have w : D.wants (D.gs t) s i := ⟨l1, fun m em => by rw [e] at em; cases em⟩
        rw [decide_eq_true w] at k
        exact k
      | some m =>
        refine iteF ?_
        refine ⟨_, rfl, p, C, dx, _, _, rfl, G.ob, T.cl, T.nh, gf_had, _, rfl, l, _, _, _, rfl, rfl, SqL.of G.ls, at_int (D.hadL_get s.had hi), _, rfl, _, _, rfl, rfl, ?_⟩
        have ew : decide (D.wants (D.gs t) s i) = decide (s.had i < m) := by
          rw [decide_eq_decide]
          exact ⟨fun w => w.2 m e, fun h => ⟨l1, fun m' em => by rw [e] at em; cases em; exact h⟩⟩
        rw [ew] at k
        exact k
    · have w : ¬ D.wants (D.gs t) s i := fun w => c1 (decide_eq_true w.1)
      rw [decide_eq_false w] at k
      exact k
end
end Lp
namespace Lp
open PySem PySem.Spec PyProof.Rows L2
theorem seat_next (x n : Nat) : (((x % n : Nat) : Int) + 1) % (n : Int) = (((x + 1) % n : Nat) : Int) := by
  have e : (((x % n + 1) % n : Nat) : Int) = ((x % n + 1 : Nat) : Int) % (n : Int) := Int.natCast_emod _ _
  rw [← Nat.mod_add_mod x n 1, e]
  rfl
/-- behind k visits of the dish d over the table t, begun at seat f -/
def GoRun (C : Addr) (H0 H : Hp) (p a dx l : Addr) (t : List Guest) (f : Nat) (d : Int) (k : Nat) : Prop :=
  GoAt C H0 H p a dx l (D.run (D.gs t) t.length f d k).left (((f + k) % t.length : Nat) : Int) (D.hadL t.length (D.run (D.gs t) t.length f d k).had) (d - (D.run (D.gs t) t.length f d k).left) (k : Int)
theorem GoRun.cast {C : Addr} {H0 H : Hp} {p a dx l : Addr} {t : List Guest} {f : Nat} {d : Int} {k : Nat} {x s v y : Int} {hs : List Int} (G : GoAt C H0 H p a dx l x s hs v y)
    (e1 : x = (D.run (D.gs t) t.length f d k).left) (e2 : s = (((f + k) % t.length : Nat) : Int)) (e3 : hs = D.hadL t.length (D.run (D.gs t) t.length f d k).had) (e4 : v = d - (D.run (D.gs t) t.length f d k).left) (e5 : y = (k : Int)) :
    GoRun C H0 H p a dx l t f d k := by
  subst e1 e2 e3 e4 e5
  exact G
section
variable {P : Program} {w : World} {K : PySem.W.Frag} {mg : Str → Option Value} {base : Heap} {C : Addr}
/-! ### visit -/
def spVisit (K : PySem.W.Frag) (C : Addr) : Sp := fun vs H Q _ => ∃ (H0 : Hp) (p a dx l : Addr) (t : List Guest) (f : Nat) (d : Int) (k : Nat), vs = [.ref p] ∧ GoRun C H0 H p a dx l t f d k ∧ TableAt K H0 a t ∧ TabOk t ∧
  ∀ H', GoRun C H0 H' p a dx l t f d (k + 1) → (∀ b o, H b = some o → b ≠ p → b ≠ l → H' b = some o) → Q (.bl (decide (D.wants (D.gs t) (D.run (D.gs t) t.length f d k) ((f + k) % t.length)))) H'
theorem small6 {a l : Addr} {x s k v : Int} : (gfs a x s l k v).length < 1000 := by show 6 < 1000; decide
theorem sc_Going_visit : FnScope ["self", "seat", "takes"] ["self"] (defScope s_Going_visit) := ⟨rfl, rfl, rfl, by decide +kernel, rfl, by decide +kernel, by decide +kernel⟩
theorem ok_visit {f : Addr} {fd : FuncData} (F : L2.Fun K "visit" "Going.visit" s_Going_visit f fd) (T : GoT K C) (B : Bls mg) (m_would_take : Met P w K mg base 1 C "would_take" (spWould K C)) : FnOk P w K mg base L2.CX0 2 f fd ["self"] (spVisit K C) := by
  refine F.ok sc_Going_visit (fun vs H Q E h => ?_) (fun cdv A outer s H vs Q E hr h => ?_)
  · obtain ⟨H0, p, a, dx, l, t, f, d, k, rfl, _⟩ := h
    rfl
  · obtain ⟨H0, p, a, dx, l, t, fs, d, n, rfl, G, tb, ok, k⟩ := h
    have hn : 0 < t.length := ok.1
    have hi : (fs + n) % t.length < t.length := Nat.mod_lt _ hn
    refine ⟨_, (pss_cons (ps_par (i := 1) (j := 2) (by rfl) sc_Going_visit.nd rfl rfl (by decide) rfl rfl (pa_cons (pe_fld (pv 0) rfl) (pa_cons (pe_me m_would_take hr (pv 0) (pa_cons (pe_fld (pv 0) rfl) pa_nil)) pa_nil)) (by rfl))
      (pss_cons (ps_if (pt_val (pv 2))
      (pss_cons (ps_augS (pe_fld (pv 0) rfl) (pv 1) get_list pe_int ip_add set_list)
      (pss_cons (ps_fldaug (pv 0) pe_int in_sub)
      (pss_one (ps_fldaug (pv 0) pe_int in_add))))
      pss_nil)
      (pss_cons (ps_fld (pv 0) (pe_op op_mod (pe_op op_add (pv 1) pe_int) (pe_len B (pe_fld (pv 0) rfl))) rfl)
      (pss_cons (ps_fldaug (pv 0) pe_int in_add)
      (pss_one (ps_ret (pv 2))))))), ?_⟩
    refine ⟨_, rfl, p, C, dx, _, _, rfl, G.ob, T.cl, T.ns, gf_seat, _, rfl, p, dx, _, rfl, G.ob, gf_no (by decide +kernel) (by decide +kernel) (by decide +kernel) (by decide +kernel) (by decide +kernel) (by decide +kernel), ?_⟩
    refine ⟨_, rfl, p, C, dx, _, _, rfl, G.ob, T.cl, T.ns, gf_seat, ?_⟩
    refine ⟨H0, p, a, dx, l, t, _, _, _, _, _, rfl, G, tb, hi, _, _, rfl, ?_⟩
    refine ⟨_, rfl, _, rfl, ?_⟩
    have step : D.run (D.gs t) t.length fs d (n + 1) = D.vis (D.gs t) (D.run (D.gs t) t.length fs d n) ((fs + n) % t.length) := rfl
    by_cases wt : D.wants (D.gs t) (D.run (D.gs t) t.length fs d n) ((fs + n) % t.length)
    · rw [decide_eq_true wt] at k ⊢
      refine iteT ?_
      refine ⟨_, rfl, p, C, dx, _, _, rfl, G.ob, T.cl, T.nh, gf_had, _, rfl, l, _, _, _, rfl, rfl, SqL.of G.ls, Int.natCast_nonneg _, map_at (D.hadL_get _ hi), _, _, rfl, rfl, l, _, _, _, rfl, rfl, G.ls, ixN_nat (by rw [List.length_map, D.hadL_len]; exact hi), ?_⟩
      have G1 := G.setHad ((fs + n) % t.length) ((D.run (D.gs t) t.length fs d n).had ((fs + n) % t.length) + 1)
      refine ⟨_, rfl, p, C, dx, _, _, rfl, G1.ob, T.cl, T.nl, gf_left, _, _, rfl, rfl, dx, _, G1.ob, small6, ?_⟩
      have G2 := G1.setLeft ((D.run (D.gs t) t.length fs d n).left - 1)
      refine ⟨_, rfl, p, C, dx, _, _, rfl, G2.ob, T.cl, T.nk, gf_taken, _, _, rfl, rfl, dx, _, G2.ob, small6, ?_⟩
      have G3 := G2.setTaken (d - (D.run (D.gs t) t.length fs d n).left + 1)
      obtain ⟨xs, hx, hl, _⟩ := (tb.same G3.same).open
      refine ⟨_, rfl, _, _, rfl, rfl, _, rfl, p, C, dx, _, _, rfl, G3.ob, T.cl, T.nt, gf_table, a, xs, rfl, .inr hx, _, _, rfl, rfl, (by rw [hl]; omega), _, rfl, p, C, dx, _, rfl, G3.ob, T.cl, T.ns, small6, ?_⟩
      have G4 := G3.setSeat (((((fs + n) % t.length : Nat) : Int) + 1) % (xs.length : Int))
      refine ⟨_, rfl, p, C, dx, _, _, rfl, G4.ob, T.cl, T.nv, gf_visits, _, _, rfl, rfl, dx, _, G4.ob, small6, ?_⟩
      have G5 := G4.setVisits ((n : Int) + 1)
      refine ⟨_, rfl, k _ (GoRun.cast G5 ?_ ?_ ?_ ?_ rfl) fun b o e h1 h2 => ?_⟩
      · rw [step, D.vis_yes wt]
      · rw [hl, ← Nat.add_assoc]
        exact seat_next _ _
      · rw [step, D.vis_yes wt, D.hadL_bump _ hi]
      · rw [step, D.vis_yes wt]
        show _ = d - ((D.run (D.gs t) t.length fs d n).left - 1)
        omega
      · rw [upd_ne h1, upd_ne h1, upd_ne h1, upd_ne h1, upd_ne h2]
        exact e
    · rw [decide_eq_false wt] at k ⊢
      refine iteF ?_
      obtain ⟨xs, hx, hl, _⟩ := (tb.same G.same).open
      refine ⟨_, rfl, _, _, rfl, rfl, _, rfl, p, C, dx, _, _, rfl, G.ob, T.cl, T.nt, gf_table, a, xs, rfl, .inr hx, _, _, rfl, rfl, (by rw [hl]; omega), _, rfl, p, C, dx, _, rfl, G.ob, T.cl, T.ns, small6, ?_⟩
      have G4 := G.setSeat (((((fs + n) % t.length : Nat) : Int) + 1) % (xs.length : Int))
      refine ⟨_, rfl, p, C, dx, _, _, rfl, G4.ob, T.cl, T.nv, gf_visits, _, _, rfl, rfl, dx, _, G4.ob, small6, ?_⟩
      have G5 := G4.setVisits ((n : Int) + 1)
      refine ⟨_, rfl, k _ (GoRun.cast G5 ?_ ?_ ?_ ?_ rfl) fun b o e h1 h2 => ?_⟩
      · rw [step, D.vis_no wt]
      · rw [hl, ← Nat.add_assoc]
        exact seat_next _ _
      · rw [step, D.vis_no wt]
      · rw [step, D.vis_no wt]
      · rw [upd_ne h1, upd_ne h1]
        exact e
end
end Lp
namespace Lp
open PySem PySem.Spec PyProof.Rows L2
def seatsV (ls : List Nat) : List V := (ls.map fun i : Nat => (i : Int)).map V.int
theorem seatsV_len (ls : List Nat) : (seatsV ls).length = ls.length := by simp [seatsV]
theorem seatsV_get {ls : List Nat} {j : Nat} {y : V} (h : (seatsV ls)[j]? = some y) : ∃ i, ls[j]? = some i ∧ y = .int (i : Int) := by
  obtain ⟨n, h1, h2⟩ := ints_get h
  rw [List.getElem?_map] at h1
  cases e : ls[j]? with
  | none => rw [e] at h1; cases h1
  | some i =>
    rw [e] at h1
    exact ⟨i, rfl, by rw [h2, ← Option.some.inj h1]⟩
section
variable {P : Program} {w : World} {K : PySem.W.Frag} {mg : Str → Option Value} {base : Heap} {C : Addr}
/-! ### rounds -/
def spRounds (K : PySem.W.Frag) (C : Addr) : Sp := fun vs H Q _ => ∃ (H0 : Hp) (p a dx l b : Addr) (t : List Guest) (s : D.S) (se tk vi : Int) (ls : List Nat) (bd : Option Int), vs = [.ref p, .ref b, optV bd] ∧ GoAt C H0 H p a dx l s.left se (D.hadL t.length s.had) tk vi ∧
  TableAt K H0 a t ∧ SqL K H b (seatsV ls) ∧ ls ≠ [] ∧ ls.length ≤ 8 ∧ (∀ i ∈ ls, i < t.length ∧ D.wants (D.gs t) s i) ∧ (∀ b0, bd = some b0 → tk ≤ b0) ∧
  ∀ (m : Nat) (H' : Hp), Same H H' → (∀ i ∈ ls, (D.gs t i).1 ≤ s.left - m * ls.length) → (∀ i ∈ ls, ∀ e, (D.gs t i).2 = some e → s.had i + m ≤ e) → (∀ b0, bd = some b0 → (m : Int) * ls.length ≤ b0 - tk) → Q (.int m) H'
theorem sc_Going_rounds : FnScope ["self", "some", "bound", "many", "found", "seat"] ["self", "some", "bound"] (defScope s_Going_rounds) := ⟨rfl, rfl, rfl, by decide +kernel, rfl, by decide +kernel, by decide +kernel⟩
theorem ok_rounds {f : Addr} {fd : FuncData} (F : L2.Fun K "rounds" "Going.rounds" s_Going_rounds f fd) (T : GoT K C) (B : Bls mg) : FnOk P w K mg base L2.CX0 1 f fd ["self", "some", "bound"] (spRounds K C) := by
  refine F.ok sc_Going_rounds (fun vs H Q E h => ?_) (fun cdv A outer s H vs Q E hr h => ?_)
  · obtain ⟨H0, p, a, dx, l, b, t, s, se, tk, vi, ls, bd, rfl, _⟩ := h
    rfl
  · obtain ⟨H0, p, a, dx, l, b, t, s, se, tk, vi, ls, bd, rfl, G, tb, hb, hne, h8, hw, hbd, k⟩ := h
    refine ⟨_, (pss_cons (ps_set (i := 3) sc_Going_rounds.nd rfl (Or.inl rfl) (pe_len B (pv 1)))
      (pss_cons (ps_set (i := 4) sc_Going_rounds.nd rfl (Or.inl rfl) (pe_lst (pa_cons (pe_op op_fdiv (pe_op op_sub (pe_fld (pv 0) rfl) (pe_callB (cr_max rfl) (by rfl) B.max (by decide +kernel) (pa_cons (pe_lc (own := [("seat", 5)]) (g := gName 5) (te := tOp (rIxT K) (tOp (rIxT K) (tFld K (tVar 0) "table") (tVar 5)) (tC (.int 0)))  (tt := tYes) (by rfl) sc_Going_rounds.nd (pi_list (pv 1)) (blkOk_by (own := [("seat", 5)]) (N := ["self", "some", "bound", "many", "found", "seat"]) (sc := defScope s_Going_rounds) (by decide +kernel)) (fun _ _ _ _ _ => by exact (pg_name (i := 5) sc_Going_rounds.nd rfl (Or.inl rfl))) (fun _ _ _ _ _ => by exact pts_nil) (fun _ _ _ _ _ => by exact (pe_ix ix_tup (pe_ix ix_tup (pe_fld (pv 0) rfl) (pv 5) (fun _ _ => rfl)) pe_int (fun _ _ => rfl)))) pa_nil))) (pv 3)) pa_nil)))
      (pss_cons (ps_for PassesOwn.never rfl (pi_list (pv 1)) (pg_name (i := 5) sc_Going_rounds.nd rfl (Or.inl rfl))
      (pss_one (ps_if (pt_cmpR op_notN (pe_ix ix_tup (pe_ix ix_tup (pe_fld (pv 0) rfl) (pv 5) (fun _ _ => rfl)) pe_int (fun _ _ => rfl)) pe_non (nomark _))
      (pss_one (ps_expr (pe_bm PySem.F.plainAttrs_list PySem.F.slot_list_append PySem.F.type_list_append mt_append (pv 4) (pa_cons (pe_op op_sub (pe_ix ix_tup (pe_ix ix_tup (pe_fld (pv 0) rfl) (pv 5) (fun _ _ => rfl)) pe_int (fun _ _ => rfl)) (pe_ix ix_list (pe_fld (pv 0) rfl) (pv 5) (fun _ _ => rfl))) pa_nil))))
      pss_nil)))
      (pss_cons (ps_if (pt_cmpR op_notN (pv 2) pe_non (nomark _))
      (pss_one (ps_expr (pe_bm PySem.F.plainAttrs_list PySem.F.slot_list_append PySem.F.type_list_append mt_append (pv 4) (pa_cons (pe_op op_fdiv (pe_op op_sub (pv 2) (pe_fld (pv 0) rfl)) (pv 3)) pa_nil))))
      pss_nil)
      (pss_one (ps_ret (pe_callB (cr_min rfl) (by rfl) B.min (by decide +kernel) (pa_cons (pv 4) pa_nil)))))))), ?_⟩
    have hpos : 1 ≤ ls.length := by
      cases ls with
      | nil => exact absurd rfl hne
      | cons _ _ => exact Nat.succ_le_succ (Nat.zero_le _)
    -- many = len(some)
    refine ⟨_, rfl, b, _, rfl, .inl hb, ?_⟩
    -- found = [(left - max([..])) // many]
    refine ⟨_, rfl, p, C, dx, _, _, rfl, G.ob, T.cl, T.nl, gf_left, ?_⟩
    refine ⟨_, rfl, b, rfl, ⟨_, hb⟩, fun D0 hD0 => ?_⟩
    refine lc_list (K := K) (a := b) (xs := seatsV ls) (fun j H' => Same H H' ∧ H' D0 = some (.lst (((ls.take j).map fun i => (D.gs t i).1).map V.int))) ⟨same_upd hD0, upd_same⟩ (fun j H' _ h => h.1.seq hb) ?_ ?_
    · rintro j y H' hj ⟨sm, hl⟩
      obtain ⟨i, hi, rfl⟩ := seatsV_get hj
      have mi : i ∈ ls := List.mem_of_getElem? hi
      obtain ⟨hin, _⟩ := hw i mi
      have G1 := G.more sm
      obtain ⟨xs, hx, hlx, hg⟩ := (tb.same G1.same).open
      obtain ⟨q, e1, hq⟩ := hg i _ (get_of hin)
      refine ⟨rfl, ?_⟩
      refine ⟨_, rfl, p, C, dx, _, _, rfl, G1.ob, T.cl, T.nt, gf_table, _, rfl, a, xs, _, _, rfl, rfl, hx, atI_nat e1, q, _, _, _, rfl, rfl, hq, rfl, _, hl, ?_, fun c o e => ?_, ?_⟩
      · rw [List.length_map, List.length_map, List.length_take]
        exact small1000 (by omega)
      · rw [upd_ne (ne_of_none e hD0)]
        exact sm c o e
      · rw [upd_same, List.take_add_one, hi]
        simp
    rintro H1 ⟨sm1, hl1⟩
    rw [seatsV_len, List.take_length] at hl1
    refine ⟨D0, _, rfl, SqL.of hl1, by rw [List.length_map]; omega, fun M hM hle => ?_⟩
    have leM : ∀ i ∈ ls, (D.gs t i).1 ≤ M := fun i hi => hle _ (List.mem_map.mpr ⟨i, hi, rfl⟩)
    have M0 : M < s.left := by
      obtain ⟨i, hi, e⟩ := List.mem_map.mp hM
      rw [← e]
      exact (hw i hi).2.1
    refine ⟨_, _, rfl, rfl, _, rfl, _, _, rfl, rfl, ⟨by rw [seatsV_len]; omega, by rw [seatsV_len]; omega⟩, by show 1 ≤ sizeLine; decide, fun q hq => ?_⟩
    rw [seatsV_len]
    have x0 : 0 ≤ (s.left - M) / (ls.length : Int) := Int.ediv_nonneg (by omega) (by omega)
    -- for seat in some
    have hb1 : SqL K (upd H1 q (.lst [.int ((s.left - M) / (ls.length : Int))])) b (seatsV ls) := (same_upd hq).seq (sm1.seq hb)
    refine ⟨_, rfl, b, rfl, ⟨_, hb1⟩, for_list (K := K) (a := b) (xs := seatsV ls) (fun j σ H' => ∃ (v : Option V) (ns : List Int), σ = [some (.ref p), some (.ref b), some (optV bd), some (.int (ls.length : Int)), some (.ref q), v] ∧
      (∀ c o, H1 c = some o → H' c = some o) ∧ H' q = some (.lst (ns.map V.int)) ∧ (s.left - M) / (ls.length : Int) ∈ ns ∧ (∀ y ∈ ns, 0 ≤ y) ∧ ns.length ≤ j + 1 ∧ ∀ i ∈ ls.take j, ∀ e, (D.gs t i).2 = some e → e - s.had i ∈ ns)
      ⟨none, [(s.left - M) / (ls.length : Int)], rfl, same_upd hq, upd_same, by simp, by simpa using x0, by simp, by simp⟩ (fun j σ H' _ ⟨_, _, _, h, _⟩ => Same.seq h (sm1.seq hb)) ?_ ?_⟩
    · rintro j y σ H' hj ⟨v, ns, rfl, sm2, hq2, hx, hpos2, hlen, hall⟩
      obtain ⟨i, hi, rfl⟩ := seatsV_get hj
      have mi : i ∈ ls := List.mem_of_getElem? hi
      obtain ⟨hin, wt⟩ := hw i mi
      have jl : j < ls.length := (List.getElem?_eq_some_iff.mp hi).1
      have G1 := (G.more sm1).more sm2
      obtain ⟨xs, hx1, hlx, hg⟩ := (tb.same G1.same).open
      obtain ⟨z, e1, hz⟩ := hg i _ (get_of hin)
      refine ⟨_, rfl, p, C, dx, _, _, rfl, G1.ob, T.cl, T.nt, gf_table, _, rfl, a, xs, _, _, rfl, rfl, hx1, atI_nat e1, z, _, _, _, rfl, rfl, hz, rfl, rfl, _, rfl, ?_⟩
      cases ee : (D.gs t i).2 with
      | none =>
        refine iteF ⟨_, ns, rfl, sm2, hq2, hx, hpos2, by omega, fun i' hi' e he => ?_⟩
        rw [List.take_add_one, hi, List.mem_append] at hi'
        rcases hi' with hi' | hi'
        · exact hall i' hi' e he
        · have : i' = i := by simpa using hi'
          rw [this, ee] at he
          cases he
      | some m =>
        rw [ee] at hz
        refine iteT ?_
        refine ⟨_, rfl, .inl ⟨rfl, _, SqL.of hq2⟩, ?_⟩
        refine ⟨_, rfl, p, C, dx, _, _, rfl, G1.ob, T.cl, T.nt, gf_table, _, rfl, a, xs, _, _, rfl, rfl, hx1, atI_nat e1, z, _, _, _, rfl, rfl, hz, rfl, ?_⟩
        refine ⟨_, rfl, p, C, dx, _, _, rfl, G1.ob, T.cl, T.nh, gf_had, _, rfl, l, _, _, _, rfl, rfl, SqL.of G1.ls, at_int (D.hadL_get s.had hin), _, _, rfl, rfl, q, _, _, rfl, rfl, hq2, by rw [List.length_map]; exact small1000 (by omega), ?_⟩
        refine ⟨_, ns ++ [m - s.had i], rfl, fun c o e => ?_, ?_, by simp [hx], fun y hy => ?_, by rw [List.length_append, List.length_singleton]; omega, fun i' hi' e he => ?_⟩
        · rw [upd_ne (ne_of_none e hq)]
          exact sm2 c o e
        · rw [upd_same, List.map_append]
          rfl
        · rcases List.mem_append.mp hy with hy | hy
          · exact hpos2 y hy
          · have : y = m - s.had i := by simpa using hy
            have := wt.2 m ee
            omega
        · rw [List.take_add_one, hi, List.mem_append] at hi'
          rcases hi' with hi' | hi'
          · exact List.mem_append_left _ (hall i' hi' e he)
          · have e2 : i' = i := by simpa using hi'
            rw [e2, ee] at he
            cases he
            rw [e2]
            exact List.mem_append_right _ (by simp)
    · rintro σ H' ⟨v, ns, rfl, sm2, hq2, hx, hpos2, hlen, hall⟩
      rw [seatsV_len] at hlen
      rw [seatsV_len, List.take_length] at hall
      have nsne : 0 < ns.length := by
        cases ns with
        | nil => cases hx
        | cons _ _ => exact Nat.succ_pos _
      -- what a least one of all is
      have done : ∀ (m : Int) (ns' : List Int) (H2 : Hp), m ∈ ns' → (∀ y ∈ ns', m ≤ y) → (∀ y ∈ ns', 0 ≤ y) → (∀ y ∈ ns, y ∈ ns') → Same H H2 → (∀ b0, bd = some b0 → m * ls.length ≤ b0 - tk) → Q (.int m) H2 := fun m ns' H2 hm hmin h0 hsub hs hb0 => by
        have hm0 := h0 m hm
        obtain ⟨r, rfl⟩ : ∃ r : Nat, m = (r : Int) := ⟨m.toNat, by omega⟩
        refine k r H2 hs (fun i hi => ?_) (fun i hi e he => ?_) hb0
        · have h1 := hmin _ (hsub _ hx)
          have h2 : (r : Int) * ls.length ≤ (s.left - M) / (ls.length : Int) * ls.length := Int.mul_le_mul_of_nonneg_right h1 (by omega)
          have h3 := Int.ediv_mul_le (s.left - M) (b := (ls.length : Int)) (by omega)
          have h4 := leM i hi
          omega
        · have h1 := hmin _ (hsub _ (hall i hi e he))
          omega
      have G1 := (G.more sm1).more sm2
      have sme : Same H H' := sm1.trans sm2
      refine ⟨_, rfl, rfl, _, rfl, ?_⟩
      cases bd with
      | none =>
        refine iteF ?_
        exact ⟨_, rfl, q, ns, rfl, SqL.of hq2, nsne, fun m hm hmin => done m ns H' hm hmin hpos2 (fun _ h => h) sme fun _ h => by cases h⟩
      | some b0 =>
        refine iteT ?_
        have hb0 := hbd b0 rfl
        refine ⟨_, rfl, .inl ⟨rfl, _, SqL.of hq2⟩, ?_⟩
        refine ⟨_, rfl, _, rfl, p, C, dx, _, _, rfl, G1.ob, T.cl, T.nk, gf_taken, _, _, rfl, rfl, _, rfl, _, _, rfl, rfl, ⟨by omega, by omega⟩, q, _, _, rfl, rfl, hq2, by rw [List.length_map]; exact small1000 (by omega), ?_⟩
        have y0 : 0 ≤ (b0 - tk) / (ls.length : Int) := Int.ediv_nonneg (by omega) (by omega)
        refine ⟨_, rfl, q, ns ++ [(b0 - tk) / (ls.length : Int)], rfl, SqL.of (by rw [upd_same, List.map_append]; rfl), by rw [List.length_append]; omega, fun m hm hmin => ?_⟩
        refine done m _ _ hm hmin (fun y hy => ?_) (fun _ h => List.mem_append_left _ h) (fun c o e => ?_) fun b1 e1 => ?_
        · rcases List.mem_append.mp hy with hy | hy
          · exact hpos2 y hy
          · have : y = (b0 - tk) / (ls.length : Int) := by simpa using hy
            omega
        · rw [upd_ne (ne_of_none (sm1 c o e) hq)]
          exact sme c o e
        · cases e1
          have h1 := hmin _ (List.mem_append_right ns (List.mem_singleton.mpr rfl))
          have h2 : m * ls.length ≤ (b0 - tk) / (ls.length : Int) * ls.length := Int.mul_le_mul_of_nonneg_right h1 (by omega)
          have h3 := Int.ediv_mul_le (b0 - tk) (b := (ls.length : Int)) (by omega)
          omega
end
end Lp
namespace Lp
open PySem PySem.Spec PyProof.Rows L2
theorem rep_flat {α : Type} (a : α) : ∀ n : Nat, (List.replicate n [a]).flatten = List.replicate n a
  | 0 => rfl
  | n + 1 => by
    rw [List.replicate_succ, List.replicate_succ, List.flatten_cons, rep_flat a n]
    rfl
section
variable {P : Program} {w : World} {K : PySem.W.Frag} {mg : Str → Option Value} {base : Heap} {C : Addr}
/-! ### Going(table, dish, first) -/
def spInit (K : PySem.W.Frag) (C : Addr) : Sp := fun vs H Q _ => ∃ (p dx a : Addr) (H0 : Hp) (t : List Guest) (f : Nat) (d : Int), vs = [.ref p, .ref a, .int d, .int (f : Int)] ∧ Same H0 H ∧ H0 p = none ∧ H p = some (.ins C dx []) ∧ TableAt K H0 a t ∧ TabOk t ∧ f < t.length ∧
  ∀ (l : Addr) (H' : Hp), GoRun C H0 H' p a dx l t f d 0 → Q .non H'
theorem sc_Going_init : FnScope ["self", "table", "dish", "first"] ["self", "table", "dish", "first"] (defScope s_Going_init) := ⟨rfl, rfl, rfl, by decide +kernel, rfl, by decide +kernel, by decide +kernel⟩
theorem ok_init {f : Addr} {fd : FuncData} (F : L2.Fun K "__init__" "Going.__init__" s_Going_init f fd) (T : GoT K C) (B : Bls mg) : FnOk P w K mg base L2.CX0 1 f fd ["self", "table", "dish", "first"] (spInit K C) := by
  refine F.ok sc_Going_init (fun vs H Q E h => ?_) (fun cdv A outer s H vs Q E hr h => ?_)
  · obtain ⟨p, dx, a, H0, t, f, d, rfl, _⟩ := h
    rfl
  · obtain ⟨p, dx, a, H0, t, fs, d, rfl, s0, p0, hp, tb, ok, hf, k⟩ := h
    refine ⟨_, (pss_cons (ps_fld (pv 0) (pv 1) rfl)
      (pss_cons (ps_fld (pv 0) (pv 2) rfl)
      (pss_cons (ps_fld (pv 0) (pv 3) rfl)
      (pss_cons (ps_fld (pv 0) (pe_op op_rep (pe_lst (pa_cons pe_int pa_nil)) (pe_len B (pv 1))) rfl)
      (pss_cons (ps_fld (pv 0) pe_int rfl)
      (pss_one (ps_fld (pv 0) pe_int rfl))))))), ?_⟩
    have hop : 1 ≤ t.length ∧ t.length ≤ 8 := ⟨ok.1, ok.2.1⟩
    -- table, left, seat
    refine ⟨_, rfl, _, rfl, p, C, dx, _, rfl, hp, T.cl, T.nt, by show 0 < 1000; decide, ?_⟩
    refine ⟨_, rfl, _, rfl, p, C, dx, _, rfl, upd_same, T.cl, T.nl, by show 1 < 1000; decide, ?_⟩
    refine ⟨_, rfl, _, rfl, p, C, dx, _, rfl, upd_same, T.cl, T.ns, Nat.lt_of_le_of_lt (length_putF _ _ _) (by show 1 + 1 < 1000; decide), ?_⟩
    -- had
    have s3 := upd_kept (o := .ins C dx (putF "seat" (.int (fs : Int)) (putF "left" (.int d) (putF "table" (.ref a) [])))) (upd_kept (o := .ins C dx (putF "left" (.int d) (putF "table" (.ref a) []))) (upd_kept (o := .ins C dx (putF "table" (.ref a) [])) s0 p0) p0) p0
    refine ⟨by show 1 ≤ sizeLine; decide, fun z hz => ?_⟩
    have npz : p ≠ z := ne_of_none upd_same hz
    have s4 := s3.trans (same_upd (o := .lst [.int 0]) hz)
    obtain ⟨xs, hx, hl, _⟩ := (tb.same s4).open
    refine ⟨_, rfl, a, xs, rfl, .inr hx, z, _, _, rfl, rfl, upd_same, by omega, by omega, ?_, fun l hlf => ?_⟩
    · show 1 * ((xs.length : Nat) : Int).toNat ≤ sizeLine
      exact Nat.le_of_lt (small1000 (by omega))
    have npl : p ≠ l := ne_of_none (o := .ins C dx (putF "seat" (.int (fs : Int)) (putF "left" (.int d) (putF "table" (.ref a) [])))) (by rw [upd_ne npz, upd_same]) hlf
    have l0 : H0 l = none := s4.free hlf
    refine ⟨_, rfl, p, C, dx, _, rfl, Eq.trans (upd_ne npl) (Eq.trans (upd_ne npz) upd_same), T.cl, T.nh, ?_, ?_⟩
    · exact Nat.lt_of_le_of_lt (Nat.le_trans (length_putF _ _ _) (Nat.succ_le_succ (length_putF _ _ _))) (by show 1 + 1 + 1 < 1000; decide)
    refine ⟨_, rfl, p, C, dx, _, rfl, upd_same, T.cl, T.nk, ?_, ?_⟩
    · exact Nat.lt_of_le_of_lt (Nat.le_trans (length_putF _ _ _) (Nat.succ_le_succ (Nat.le_trans (length_putF _ _ _) (Nat.succ_le_succ (length_putF _ _ _))))) (by show 1 + 1 + 1 + 1 < 1000; decide)
    refine ⟨_, rfl, p, C, dx, _, rfl, upd_same, T.cl, T.nv, ?_, ?_⟩
    · exact Nat.lt_of_le_of_lt (Nat.le_trans (length_putF _ _ _) (Nat.succ_le_succ (Nat.le_trans (length_putF _ _ _) (Nat.succ_le_succ (Nat.le_trans (length_putF _ _ _) (Nat.succ_le_succ (length_putF _ _ _))))))) (by show 1 + 1 + 1 + 1 + 1 < 1000; decide)
    refine k l _ (GoRun.cast (x := d) (s := (fs : Int)) (hs := List.replicate t.length 0) (v := 0) (y := 0) ⟨?_, p0, l0, ?_, ?_⟩ rfl ?_ ?_ ?_ rfl)
    · exact upd_kept (upd_kept (upd_kept (s4.trans (same_upd hlf)) p0) p0) p0
    · rw [upd_same]
      exact congrArg (fun q => some (HO.ins C dx q)) gf_made
    · rw [upd_ne (Ne.symm npl), upd_ne (Ne.symm npl), upd_ne (Ne.symm npl), upd_same]
      show some (HO.lst (List.replicate ((xs.length : Nat) : Int).toNat [V.int 0]).flatten) = _
      rw [Int.toNat_natCast, hl, rep_flat, List.map_replicate]
    · rw [Nat.add_zero, Nat.mod_eq_of_lt hf]
    · exact (D.hadL_zero _).symm
    · show (0 : Int) = d - d
      omega
end
end Lp
namespace Lp
open PySem PySem.Spec PyProof.Rows L2
section
variable {P : Program} {w : World} {K : PySem.W.Frag} {mg : Str → Option Value} {base : Heap} {C : Addr}
/-! ### go -/
abbrev St8 (t : List Guest) (f : Nat) (d : Int) (k : Nat) : D.S := D.run (D.gs t) t.length f d k
def spGo (K : PySem.W.Frag) (C : Addr) : Sp := fun vs H Q _ => ∃ (H0 : Hp) (p a dx l : Addr) (t : List Guest) (f : Nat) (d : Int) (nm : Option Int), vs = [.ref p, optV nm] ∧ GoRun C H0 H p a dx l t f d 0 ∧ TableAt K H0 a t ∧ TabOk t ∧ f < t.length ∧ (∀ b, nm = some b → 1 ≤ b) ∧
  (∀ (k : Nat) (H' : Hp), GoRun C H0 H' p a dx l t f d k → D.Quiet (D.gs t) t.length (St8 t f d k) → (∀ b, nm = some b → d - (St8 t f d k).left < b) → Q .non H') ∧
  (∀ (k : Nat) (q : Addr) (b : Int) (H' : Hp), nm = some b → d - (St8 t f d k).left = b - 1 → d - (St8 t f d (k + 1)).left = b → Same H0 H' → H' q = some (.tup [.int (((f + k) % t.length : Nat) : Int), .int ((k + 1 : Nat) : Int)]) → Q (.ref q) H')
theorem guest_pos {t : List Guest} (ok : TabOk t) (i : Nat) (hi : i < t.length) : 0 ≤ (D.gs t i).1 := (ok.2.2 _ (List.mem_of_getElem? (get_of hi))).1
/-- the list of those who want one: the comprehension's loop -/
theorem act_step {g : D.Gs} {s : D.S} (j : Nat) : ((List.range (j + 1)).filter fun i => decide (D.wants g s i)) = ((List.range j).filter fun i => decide (D.wants g s i)) ++ if D.wants g s j then [j] else [] := by
  rw [List.range_succ, List.filter_append]
  by_cases w : D.wants g s j
  · simp [w]
  · simp [w]
theorem optV_non {o : Option Int} (h : optV o = V.non) : o = none := by
  cases o with
  | none => rfl
  | some _ => cases h
theorem optV_some {o : Option Int} (h : ¬ optV o = V.non) : ∃ b, o = some b := by
  cases o with
  | none => exact absurd rfl h
  | some b => exact ⟨b, rfl⟩
theorem scal_opt (i : Int) (o : Option Int) : scal (.int i) (optV o) = true := by
  cases o <;> rfl
theorem args_if {σ : L2.St} {H : Hp} {nm : Option Int} (h1 : σ[1]? = some (some (optV nm))) {k : List V → Hp → Prop} (h : k [optV (nm.map (· - 1))] H) :
    tCons (tIf (tTest (tOp (fun x y H Q => y = .non ∧ Q (.bl (decide (x = .non))) H) (tVar 1) (tC .non))) (tC .non) (tOp (rI0 fun i j => .int (i - j)) (tVar 1) (tC (.int 1)))) tNil σ H k := by
  refine ⟨_, h1, rfl, _, rfl, ?_⟩
  cases nm with
  | none => exact iteT h
  | some b => exact iteF ⟨_, h1, _, _, rfl, rfl, h⟩
/-- between two turns of the while -/
def GoInv (C : Addr) (H0 : Hp) (p a dx l : Addr) (t : List Guest) (f : Nat) (d : Int) (nm : Option Int) (m : Nat) (σ : L2.St) (H : Hp) : Prop :=
  ∃ (k : Nat) (q : Addr) (v3 v4 v5 : Option V), σ = [some (.ref p), some (optV nm), some (.ref q), v3, v4, v5] ∧ GoRun C H0 H p a dx l t f d k ∧ H q = some (.lst (seatsV (D.act (D.gs t) t.length (St8 t f d k)))) ∧ q ≠ l ∧
    (∀ b, nm = some b → d - (St8 t f d k).left < b) ∧ m = (St8 t f d k).left.toNat
theorem sc_Going_go : FnScope ["self", "number", "some", "seat", "many", "turn"] ["self", "number"] (defScope s_Going_go) := ⟨rfl, rfl, rfl, by decide +kernel, rfl, by decide +kernel, by decide +kernel⟩
theorem ok_go {f : Addr} {fd : FuncData} (F : L2.Fun K "go" "Going.go" s_Going_go f fd) (T : GoT K C) (B : Bls mg) (m_would_take : Met P w K mg base 1 C "would_take" (spWould K C)) (m_rounds : Met P w K mg base 1 C "rounds" (spRounds K C)) (m_visit : Met P w K mg base 2 C "visit" (spVisit K C)) :
    FnOk P w K mg base L2.CX0 3 f fd ["self", "number"] (spGo K C) := by
  refine F.ok sc_Going_go (fun vs H Q E h => ?_) (fun cdv A outer s H vs Q E hr h => ?_)
  · obtain ⟨H0, p, a, dx, l, t, f, d, nm, rfl, _⟩ := h
    rfl
  · obtain ⟨H0, p, a, dx, l, t, fs, d, nm, rfl, G0, tb, ok, hf, hb, kQ, kT⟩ := h
    have hn : 0 < t.length := ok.1
    refine ⟨_, (pss_cons (ps_setLc (i := 2) (own := [("seat", 3)]) (g := gName 3)  (by rfl) sc_Going_go.nd rfl rfl (sw_true rfl rfl rfl (by decide +kernel)) (pi_range1 (by rfl) B.range (pa_cons (pe_len B (pe_fld (pv 0) rfl)) pa_nil)) (blkOk_by (own := [("seat", 3)]) (N := ["self", "number", "some", "seat", "many", "turn"]) (sc := defScope s_Going_go) (by decide +kernel)) (fun _ _ _ _ _ => by exact (pg_name (i := 3) sc_Going_go.nd rfl (Or.inl rfl))) (fun _ _ _ _ _ => by exact pts_one (pt_val (pe_me m_would_take hr (pv 0) (pa_cons (pv 3) pa_nil)))) (fun _ _ _ _ _ => by exact (pv 3)))
      (pss_cons (ps_while PassesOwn.never (pt_cmpR (op_neD hr.units) (pv 2) (pe_lst pa_nil) (nomark _))
      (pss_cons (ps_set (i := 4) sc_Going_go.nd rfl (Or.inl rfl) (pe_me m_rounds hr (pv 0) (pa_cons (pv 2) (pa_cons (pe_ifExp (pt_cmpR op_isN (pv 1) pe_non (nomark _)) pe_non (pe_op op_sub (pv 1) pe_int)) pa_nil))))
      (pss_cons (ps_for PassesOwn.never rfl (pi_list (pv 2)) (pg_name (i := 3) sc_Going_go.nd rfl (Or.inl rfl))
      (pss_one (ps_augS (pe_fld (pv 0) rfl) (pv 3) get_list (pv 4) ip_add set_list)))
      (pss_cons (ps_fldaug (pv 0) (pe_op op_mul (pv 4) (pe_len B (pv 2))) in_sub)
      (pss_cons (ps_fldaug (pv 0) (pe_op op_mul (pv 4) (pe_len B (pv 2))) in_add)
      (pss_cons (ps_fldaug (pv 0) (pe_op op_mul (pv 4) (pe_len B (pe_fld (pv 0) rfl))) in_add)
      (pss_cons (ps_for PassesOwn.never rfl (pi_range1 (by rfl) B.range (pa_cons (pe_len B (pe_fld (pv 0) rfl)) pa_nil)) (pg_name (i := 5) sc_Going_go.nd rfl (Or.inl rfl))
      (pss_cons (ps_set (i := 3) sc_Going_go.nd rfl (Or.inl rfl) (pe_fld (pv 0) rfl))
      (pss_one (ps_if (PW.pt (pw_and (pt_val (pe_me0 m_visit hr (pv 0))) (pw_and1 (pt_cmpR op_eq (pe_fld (pv 0) rfl) (pv 1) (nomark _)))))
      (pss_one (ps_ret (pe_tup (pa_cons (pv 3) (pa_cons (pe_fld (pv 0) rfl) pa_nil)))))
      pss_nil))))
      (pss_one (ps_setLc (i := 2) (own := [("seat", 3)]) (g := gName 3)  (by rfl) sc_Going_go.nd rfl rfl (sw_true rfl rfl rfl (by decide +kernel)) (pi_range1 (by rfl) B.range (pa_cons (pe_len B (pe_fld (pv 0) rfl)) pa_nil)) (blkOk_by (own := [("seat", 3)]) (N := ["self", "number", "some", "seat", "many", "turn"]) (sc := defScope s_Going_go) (by decide +kernel)) (fun _ _ _ _ _ => by exact (pg_name (i := 3) sc_Going_go.nd rfl (Or.inl rfl))) (fun _ _ _ _ _ => by exact pts_one (pt_val (pe_me m_would_take hr (pv 0) (pa_cons (pv 3) pa_nil)))) (fun _ _ _ _ _ => by exact (pv 3)))))))))))
      (pss_one (ps_ret pe_non)))), ?_⟩
    -- some = [..]
    obtain ⟨xs, hx, hl, _⟩ := (tb.same G0.same).open
    have l8 : xs.length ≤ 8 := by rw [hl]; exact ok.2.1
    refine ⟨_, rfl, p, C, dx, _, _, rfl, G0.ob, T.cl, T.nt, gf_table, a, xs, rfl, .inr hx, _, rfl, by omega, by omega, fun D0 hD0 => ?_⟩
    refine lc_range (lo := 0) (n := ((xs.length : Nat) : Int).toNat) (fun j H' => Same H H' ∧ H' D0 = some (.lst (seatsV ((List.range j).filter fun i => decide (D.wants (D.gs t) (St8 t fs d 0) i))))) ⟨same_upd hD0, upd_same⟩ ?_ ?_
    · rintro j H' hj ⟨sm, hl1⟩
      have hjn : j < t.length := by omega
      have G' := GoAt.more G0 sm
      refine ⟨rfl, _, rfl, p, dx, _, rfl, G'.ob, gf_no (by decide +kernel) (by decide +kernel) (by decide +kernel) (by decide +kernel) (by decide +kernel) (by decide +kernel), _, rfl, ?_⟩
      refine ⟨H0, p, a, dx, l, t, _, _, _, _, j, (by rw [Int.zero_add]; rfl), G', tb, hjn, _, rfl, ?_⟩
      by_cases wt : D.wants (D.gs t) (St8 t fs d 0) j
      · rw [decide_eq_true wt]
        refine iteT ⟨_, rfl, _, hl1, ?_, fun b o e => ?_, ?_⟩
        · rw [seatsV_len]
          exact small1000 (Nat.le_trans (List.length_filter_le _ _) (by rw [List.length_range]; have := ok.2.1; omega))
        · rw [upd_ne (ne_of_none e hD0)]
          exact sm b o e
        · rw [upd_same, act_step, if_pos wt, Int.zero_add]
          simp [seatsV]
      · rw [decide_eq_false wt]
        refine iteF ⟨sm, ?_⟩
        rw [hl1, act_step, if_neg wt, List.append_nil]
    rintro H1 ⟨sm, hq0⟩
    rw [Int.toNat_natCast, hl] at hq0
    have nql : D0 ≠ l := fun e => by rw [e, G0.ls] at hD0; cases hD0
    -- while
    refine ⟨GoInv C H0 p a dx l t fs d nm, ⟨_, 0, D0, none, none, none, rfl, GoAt.more G0 sm, hq0, nql, fun b e => ?_, rfl⟩, ?_⟩
    · have := hb b e
      show d - d < b
      omega
    clear hx hl l8 sm hq0 nql hD0
    rintro m0 σ H2 ⟨k, q, v3, v4, v5, rfl, G, hq, hql, hlt, rfl⟩
    refine ⟨_, rfl, Nat.zero_le _, fun z hz => ne_ints (ns := (D.act (D.gs t) t.length (St8 t fs d k)).map fun i : Nat => (i : Int)) (ms := []) (SqL.of ((same_upd hz) _ _ hq)) (SqL.of upd_same) ⟨_, rfl, ?_⟩⟩
    have sz : Same H2 (upd H2 z (.lst [])) := same_upd hz
    by_cases he : D.act (D.gs t) t.length (St8 t fs d k) = []
    · rw [he]
      refine iteF ?_
      exact kQ k _ (GoAt.more G sz) (D.act_nil.mp he) hlt
    have nn : ¬ ((D.act (D.gs t) t.length (St8 t fs d k)).map fun i : Nat => (i : Int)) = [] := fun e => he (List.map_eq_nil_iff.mp e)
    rw [decide_eq_false nn]
    refine iteT ⟨fun σ' H' => ∃ m', m' < (St8 t fs d k).left.toNat ∧ GoInv C H0 p a dx l t fs d nm m' σ' H', fun _ _ h => h, ?_⟩
    -- many = self.rounds(..)
    have G1 := GoAt.more G sz
    have hq1 := sz _ _ hq
    refine ⟨_, rfl, p, dx, _, rfl, G1.ob, gf_no (by decide +kernel) (by decide +kernel) (by decide +kernel) (by decide +kernel) (by decide +kernel) (by decide +kernel), _, rfl, ?_⟩
    refine args_if (nm := nm) rfl ?_
    refine ⟨H0, p, a, dx, l, q, t, St8 t fs d k, _, _, _, _, nm.map (· - 1), rfl, G1, tb, SqL.of hq1, he, Nat.le_trans (D.act_le _ _ _) ok.2.1, fun i hi => D.mem_act.mp hi, fun b0 e => ?_, fun m H3 s3 h1 h2 h3' => ?_⟩
    · cases nm with
      | none => cases e
      | some b =>
        have := hlt b rfl
        have e' : b - 1 = b0 := Option.some.inj e
        show d - (St8 t fs d k).left ≤ b0
        omega
    have h3 : ∀ b, nm = some b → (m : Int) * (D.act (D.gs t) t.length (St8 t fs d k)).length ≤ b - 1 - (d - (St8 t fs d k).left) := fun b e => by
      rw [e] at h3'
      exact h3' _ rfl
    have G3 := GoAt.more G1 s3
    have hq3 := s3 _ _ hq1
    -- for seat in some
    refine ⟨_, rfl, q, rfl, ⟨_, SqL.of hq3⟩, for_list (K := K) (a := q) (xs := seatsV (D.act (D.gs t) t.length (St8 t fs d k))) (fun j σ H' => ∃ (v3 : Option V), σ = [some (.ref p), some (optV nm), some (.ref q), v3, some (.int (m : Int)), v5] ∧
      GoAt C H0 H' p a dx l (St8 t fs d k).left (((fs + k) % t.length : Nat) : Int) (D.hadL t.length (D.hadOn (St8 t fs d k).had m ((D.act (D.gs t) t.length (St8 t fs d k)).take j))) (d - (St8 t fs d k).left) (k : Int) ∧
      H' q = some (.lst (seatsV (D.act (D.gs t) t.length (St8 t fs d k))))) ⟨v3, rfl, by rw [List.take_zero, D.hadOn_nil]; exact G3, hq3⟩ (fun j σ H' _ ⟨_, _, _, h⟩ => SqL.of h) ?_ ?_⟩
    · rintro j y σ H' hj ⟨v3, rfl, G', hq'⟩
      obtain ⟨i, hi, rfl⟩ := seatsV_get hj
      have mi : i ∈ D.act (D.gs t) t.length (St8 t fs d k) := List.mem_of_getElem? hi
      have hin := (D.mem_act.mp mi).1
      refine ⟨_, rfl, p, C, dx, _, _, rfl, G'.ob, T.cl, T.nh, gf_had, _, rfl, l, _, _, _, rfl, rfl, SqL.of G'.ls, Int.natCast_nonneg _, map_at (D.hadL_get _ hin), _, rfl, _, _, rfl, rfl, l, _, _, _, rfl, rfl, G'.ls, ixN_nat (by rw [List.length_map, D.hadL_len]; exact hin), ?_⟩
      have G'' := G'.setHad i (D.hadOn (St8 t fs d k).had m ((D.act (D.gs t) t.length (St8 t fs d k)).take j) i + m)
      rw [D.hadOn_snoc hin (D.mem_take_at (D.act_nodup _ _ _) hi)] at G''
      refine ⟨_, rfl, ?_, by rw [upd_ne hql]; exact hq'⟩
      rw [List.take_add_one, hi]
      exact G''
    rintro σ H4 ⟨v3', rfl, G4, hq4⟩
    rw [seatsV_len, List.take_length] at G4
    have hal := D.act_many (D.gs t) t.length (St8 t fs d k)
    have ha8 : (D.act (D.gs t) t.length (St8 t fs d k)).length ≤ 8 := Nat.le_trans (D.act_le _ _ _) ok.2.1
    -- left, taken, visits
    refine ⟨_, rfl, p, C, dx, _, _, rfl, G4.ob, T.cl, T.nl, gf_left, _, rfl, _, rfl, q, _, rfl, .inl (SqL.of hq4), _, _, rfl, rfl, .inr ⟨by omega, by rw [seatsV_len]; omega⟩, _, _, rfl, rfl, dx, _, G4.ob, small6, ?_⟩
    have G5 := G4.setLeft ((St8 t fs d k).left - (m : Int) * ((seatsV (D.act (D.gs t) t.length (St8 t fs d k))).length : Int))
    have npq : q ≠ p := ne_of hq4 G4.ob (by intro z; cases z)
    refine ⟨_, rfl, p, C, dx, _, _, rfl, G5.ob, T.cl, T.nk, gf_taken, _, rfl, _, rfl, q, _, rfl, .inl (SqL.of (by rw [upd_ne npq]; exact hq4)), _, _, rfl, rfl, .inr ⟨by omega, by rw [seatsV_len]; omega⟩, _, _, rfl, rfl, dx, _, G5.ob, small6, ?_⟩
    have G6 := G5.setTaken (d - (St8 t fs d k).left + (m : Int) * ((seatsV (D.act (D.gs t) t.length (St8 t fs d k))).length : Int))
    obtain ⟨xs, hx, hl, _⟩ := (tb.same G6.same).open
    have l8 : xs.length ≤ 8 := by rw [hl]; exact ok.2.1
    refine ⟨_, rfl, p, C, dx, _, _, rfl, G6.ob, T.cl, T.nv, gf_visits, _, rfl, _, rfl, p, C, dx, _, _, rfl, G6.ob, T.cl, T.nt, gf_table, a, xs, rfl, .inr hx, _, _, rfl, rfl, .inr ⟨by omega, by omega⟩, _, _, rfl, rfl, dx, _, G6.ob, small6, ?_⟩
    have G7 := G6.setVisits ((k : Int) + (m : Int) * (xs.length : Int))
    have sk := D.skip (g := D.gs t) (n := t.length) (f := fs) (d := d) (k := k) hn m (fun i hi w => by rw [← hal]; exact h1 i (D.mem_act.mpr ⟨hi, w⟩)) (fun i hi w => h2 i (D.mem_act.mpr ⟨hi, w⟩))
    rw [← hal] at sk
    have G8 : GoRun C H0 _ p a dx l t fs d (k + m * t.length) := GoRun.cast G7 (by rw [seatsV_len]; exact sk.2.symm) (by rw [← Nat.add_assoc, Nat.add_mul_mod_self_right]) (D.hadL_congr fun i hi => by
      rw [sk.1 i hi]
      unfold D.hadOn
      by_cases w : D.wants (D.gs t) (St8 t fs d k) i
      · rw [if_pos (D.mem_act.mpr ⟨hi, w⟩), if_pos w]
      · rw [if_neg fun z => w (D.mem_act.mp z).2, if_neg w]
        exact (Int.add_zero _).symm) (by rw [seatsV_len, sk.2]; show d - (St8 t fs d k).left + _ = d - ((St8 t fs d k).left - _); omega) (by rw [hl]; push_cast; rfl)
    have lt8 : ∀ b, nm = some b → d - (St8 t fs d (k + m * t.length)).left < b := fun b e => by
      have e3 := h3 b e
      have e4 : (St8 t fs d (k + m * t.length)).left = (St8 t fs d k).left - m * ((D.act (D.gs t) t.length (St8 t fs d k)).length : Int) := sk.2
      omega
    -- for turn in range(..)
    obtain ⟨xs2, hx2, hl2, _⟩ := (tb.same G8.same).open
    have l82 : xs2.length ≤ 8 := by rw [hl2]; exact ok.2.1
    refine ⟨_, rfl, p, C, dx, _, _, rfl, G8.ob, T.cl, T.nt, gf_table, a, xs2, rfl, .inr hx2, _, rfl, by omega, by omega, for_range (lo := 0) (n := ((xs2.length : Nat) : Int).toNat) (fun j σ H' => ∃ (v3 v5 : Option V), σ = [some (.ref p), some (optV nm), some (.ref q), v3, some (.int (m : Int)), v5] ∧
      GoRun C H0 H' p a dx l t fs d (k + m * t.length + j) ∧ ∀ b, nm = some b → d - (St8 t fs d (k + m * t.length + j)).left < b) ⟨_, _, rfl, G8, lt8⟩ ?_ ?_⟩
    · rintro j σ H' hj ⟨v3, v5, rfl, G', hlt'⟩
      refine ⟨_, rfl, p, C, dx, _, _, rfl, G'.ob, T.cl, T.ns, gf_seat, ?_⟩
      refine ⟨_, rfl, p, dx, _, rfl, G'.ob, gf_no (by decide +kernel) (by decide +kernel) (by decide +kernel) (by decide +kernel) (by decide +kernel) (by decide +kernel), ?_⟩
      refine ⟨H0, p, a, dx, l, t, fs, d, k + m * t.length + j, rfl, G', tb, ok, fun H9 G9 kp => ⟨_, rfl, ?_⟩⟩
      have stp : St8 t fs d (k + m * t.length + j + 1) = D.vis (D.gs t) (St8 t fs d (k + m * t.length + j)) ((fs + (k + m * t.length + j)) % t.length) := rfl
      by_cases wt : D.wants (D.gs t) (St8 t fs d (k + m * t.length + j)) ((fs + (k + m * t.length + j)) % t.length)
      · rw [decide_eq_true wt]
        have el : (St8 t fs d (k + m * t.length + j + 1)).left = (St8 t fs d (k + m * t.length + j)).left - 1 := by rw [stp, D.vis_yes wt]
        refine iteT ⟨_, rfl, p, C, dx, _, _, rfl, G9.ob, T.cl, T.nk, gf_taken, _, rfl, scal_opt _ _, _, rfl, ?_⟩
        refine ite2 (fun c => ?_) (fun c => ?_)
        · have ec := of_decide_eq_true c
          obtain ⟨b, hb'⟩ := optV_some (o := nm) fun e => by rw [e] at ec; cases ec
          rw [hb'] at ec
          have eb : d - (St8 t fs d (k + m * t.length + j + 1)).left = b := V.int.inj ec
          refine ⟨_, rfl, _, rfl, p, C, dx, _, _, rfl, G9.ob, T.cl, T.nv, gf_visits, by show 2 ≤ sizeLine; decide, fun r hr => ?_⟩
          exact kT _ r b _ hb' (by omega) eb (G9.same.trans (same_upd hr)) upd_same
        · refine ⟨_, _, rfl, G9, fun b e => ?_⟩
          have h7 := hlt' b e
          have : d - (St8 t fs d (k + m * t.length + j + 1)).left ≠ b := fun z => c (decide_eq_true (by rw [e]; exact congrArg V.int z))
          show d - (St8 t fs d (k + m * t.length + j + 1)).left < b
          omega
      · rw [decide_eq_false wt]
        refine iteF ⟨_, _, rfl, G9, fun b e => ?_⟩
        have h7 := hlt' b e
        show d - (St8 t fs d (k + m * t.length + j + 1)).left < b
        rw [stp, D.vis_no wt]
        exact h7
    rintro σ H7 ⟨v3'', v5'', rfl, G7', hlt7⟩
    rw [Int.toNat_natCast, hl2] at G7' hlt7
    -- some = [..]
    clear hx hl l8
    obtain ⟨xs, hx, hl, _⟩ := (tb.same G7'.same).open
    have l8 : xs.length ≤ 8 := by rw [hl]; exact ok.2.1
    refine ⟨_, rfl, p, C, dx, _, _, rfl, G7'.ob, T.cl, T.nt, gf_table, a, xs, rfl, .inr hx, _, rfl, by omega, by omega, fun D0 hD0 => ?_⟩
    refine lc_range (lo := 0) (n := ((xs.length : Nat) : Int).toNat) (fun j H' => Same H7 H' ∧ H' D0 = some (.lst (seatsV ((List.range j).filter fun i => decide (D.wants (D.gs t) (St8 t fs d (k + m * t.length + t.length)) i))))) ⟨same_upd hD0, upd_same⟩ ?_ ?_
    · rintro j H' hj ⟨sm, hl1⟩
      have hjn : j < t.length := by omega
      have G' := GoAt.more G7' sm
      refine ⟨rfl, _, rfl, p, dx, _, rfl, G'.ob, gf_no (by decide +kernel) (by decide +kernel) (by decide +kernel) (by decide +kernel) (by decide +kernel) (by decide +kernel), _, rfl, ?_⟩
      refine ⟨H0, p, a, dx, l, t, _, _, _, _, j, (by rw [Int.zero_add]; rfl), G', tb, hjn, _, rfl, ?_⟩
      by_cases wt : D.wants (D.gs t) (St8 t fs d (k + m * t.length + t.length)) j
      · rw [decide_eq_true wt]
        refine iteT ⟨_, rfl, _, hl1, ?_, fun b o e => ?_, ?_⟩
        · rw [seatsV_len]
          exact small1000 (Nat.le_trans (List.length_filter_le _ _) (by rw [List.length_range]; have := ok.2.1; omega))
        · rw [upd_ne (ne_of_none e hD0)]
          exact sm b o e
        · rw [upd_same, act_step, if_pos wt, Int.zero_add]
          simp [seatsV]
      · rw [decide_eq_false wt]
        refine iteF ⟨sm, ?_⟩
        rw [hl1, act_step, if_neg wt, List.append_nil]
    rintro H8 ⟨sm, hq0⟩
    rw [Int.toNat_natCast, hl] at hq0
    -- a piece was taken
    have nq : ¬ D.Quiet (D.gs t) t.length (St8 t fs d k) := fun z => he (D.act_nil.mpr z)
    have less : (St8 t fs d (k + m * t.length + t.length)).left < (St8 t fs d k).left := by
      cases m with
      | zero =>
        rw [Nat.zero_mul, Nat.add_zero]
        exact D.progress hn nq
      | succ m =>
        have e1 := D.run_left_le (g := D.gs t) (n := t.length) (f := fs) (d := d) (k + (m + 1) * t.length) t.length
        have e2 : (St8 t fs d (k + (m + 1) * t.length)).left = (St8 t fs d k).left - ((m + 1 : Nat) : Int) * ((D.act (D.gs t) t.length (St8 t fs d k)).length : Int) := sk.2
        have e3 : 1 ≤ (D.act (D.gs t) t.length (St8 t fs d k)).length := by
          cases ee : D.act (D.gs t) t.length (St8 t fs d k) with
          | nil => exact absurd ee he
          | cons _ _ => exact Nat.succ_le_succ (Nat.zero_le _)
        have e4 : (1 : Int) * 1 ≤ ((m + 1 : Nat) : Int) * ((D.act (D.gs t) t.length (St8 t fs d k)).length : Int) := Int.mul_le_mul (by omega) (by omega) (by omega) (by omega)
        have e5 : (St8 t fs d (k + (m + 1) * t.length + t.length)).left ≤ (St8 t fs d (k + (m + 1) * t.length)).left := e1
        omega
    have pos : 0 < (St8 t fs d k).left := by
      cases ee : D.act (D.gs t) t.length (St8 t fs d k) with
      | nil => exact absurd ee he
      | cons i _ =>
        have mi := D.mem_act.mp (show i ∈ D.act (D.gs t) t.length (St8 t fs d k) by rw [ee]; exact List.mem_cons_self)
        have := mi.2.1
        have := guest_pos ok i mi.1
        omega
    exact ⟨(St8 t fs d (k + m * t.length + t.length)).left.toNat, by omega, k + m * t.length + t.length, D0, _, _, _, rfl, GoAt.more G7' sm, hq0, (fun e => by rw [e, G7'.ls] at hD0; cases hD0), hlt7, rfl⟩
end
/-- how the dish rests -/
abbrev Fin (t : List Guest) (f : Nat) (d : Int) : D.S := D.fin (D.gs t) t.length f d
/-- the shares of the rest -/
abbrev finL (t : List Guest) (f : Nat) (d : Int) : List Int := D.hadL t.length (Fin t f d).had
theorem fin_at {t : List Guest} {f : Nat} {d : Int} {k : Nat} (ok : TabOk t) (hd : 0 ≤ d) (q : D.Quiet (D.gs t) t.length (St8 t f d k)) : St8 t f d k = Fin t f d :=
  D.fin_of ok.1 (fun i hi => guest_pos ok i hi) hd q
theorem same_made {H : Hp} {x dx C : Addr} (nx : H x = none) (nd : H dx = none) : Same H (upd (upd H dx (.own x)) x (.ins C dx [])) := fun b o e => by
  rw [upd_ne (ne_of_none e nx), upd_ne (ne_of_none e nd)]
  exact e
end Lp
namespace Lp
open PySem PySem.Spec PyProof.Rows L2
section
variable {P : Program} {w : World} {K : PySem.W.Frag} {mg : Str → Option Value} {base : Heap} {C : Addr}
/-! ### rested -/
def spRested (K : PySem.W.Frag) : Sp := fun vs H Q _ => ∃ (a : Addr) (t : List Guest) (f : Nat) (d : Int), vs = [.ref a, .int d, .int (f : Int)] ∧ TableAt K H a t ∧ TabOk t ∧ f < t.length ∧ 0 ≤ d ∧
  ∀ (q l : Addr) (H' : Hp), Same H H' → H l = none → H' q = some (.tup [.ref l, .int (Fin t f d).left]) → H' l = some (.lst ((finL t f d).map V.int)) → Q (.ref q) H'
theorem sc_rested : FnScope ["table", "dish", "first", "going"] ["table", "dish", "first"] (defScope s_rested) := ⟨rfl, rfl, rfl, by decide +kernel, rfl, by decide +kernel, by decide +kernel⟩
theorem ok_rested {f : Addr} {fd : FuncData} (F : L2.Fun K "rested" "rested" s_rested f fd) (T : GoT K C) (n_Going : Mak P w K mg base 1 "Going" C (spInit K C)) (m_go : Met P w K mg base 3 C "go" (spGo K C)) :
    FnOk P w K mg base L2.CX0 4 f fd ["table", "dish", "first"] (spRested K) := by
  refine F.ok sc_rested (fun vs H Q E h => ?_) (fun cdv A outer s H vs Q E hr h => ?_)
  · obtain ⟨a, t, f, d, rfl, _⟩ := h
    rfl
  · obtain ⟨a, t, fs, d, rfl, tb, ok, hf, hd, k⟩ := h
    refine ⟨_, (pss_cons (ps_set (i := 3) sc_rested.nd rfl (Or.inl rfl) (pe_new n_Going hr (pa_cons (pv 0) (pa_cons (pv 1) (pa_cons (pv 2) pa_nil)))))
      (pss_cons (ps_expr (pe_me m_go hr (pv 3) (pa_cons pe_non pa_nil)))
      (pss_one (ps_ret (pe_tup (pa_cons (pe_fld (pv 3) rfl) (pa_cons (pe_fld (pv 3) rfl) pa_nil))))))), ?_⟩
    refine ⟨_, rfl, _, rfl, _, rfl, fun x dx nx ndx nex => ?_⟩
    refine ⟨x, dx, a, H, t, fs, d, rfl, same_made nx ndx, nx, upd_same, tb, ok, hf, fun l H1 G => ⟨rfl, ?_⟩⟩
    refine ⟨_, rfl, x, dx, _, rfl, G.ob, gf_no (by decide +kernel) (by decide +kernel) (by decide +kernel) (by decide +kernel) (by decide +kernel) (by decide +kernel), ?_⟩
    refine ⟨H, x, a, dx, l, t, fs, d, none, rfl, G, tb, ok, hf, (fun b e => by cases e), fun n H2 G2 qt _ => ?_, fun n q b H2 e => by cases e⟩
    have e := fin_at ok hd qt
    refine ⟨_, rfl, x, C, dx, _, _, rfl, G2.ob, T.cl, T.nh, gf_had, _, rfl, x, C, dx, _, _, rfl, G2.ob, T.cl, T.nl, gf_left, by show 2 ≤ sizeLine; decide, fun r hrr => ?_⟩
    have gl := G2.ls
    have e' : D.run (D.gs t) t.length fs d n = Fin t fs d := e
    rw [e'] at gl
    rw [e']
    exact k r l _ (G2.same.trans (same_upd hrr)) G2.newl upd_same (same_upd hrr _ _ gl)
end
end Lp
namespace Lp
open PySem PySem.Spec PyProof.Rows L2
section
variable {P : Program} {w : World} {K : PySem.W.Frag} {mg : Str → Option Value} {base : Heap} {C : Addr}
/-! ### shares -/
def spShares (K : PySem.W.Frag) : Sp := fun vs H Q _ => ∃ (a : Addr) (t : List Guest) (f : Nat) (d : Int), vs = [.ref a, .int d, .int (f : Int)] ∧ TableAt K H a t ∧ TabOk t ∧ f < t.length ∧ 0 ≤ d ∧ d ≤ 1000000000000000000 ∧
  ∀ (l : Addr) (H' : Hp), Same H H' → H l = none → H' l = some (.lst ((finL t f d).map V.int)) → Q (.ref l) H'
theorem sc_shares : FnScope ["table", "dish", "first"] ["table", "dish", "first"] (defScope s_shares) := ⟨rfl, rfl, rfl, by decide +kernel, rfl, by decide +kernel, by decide +kernel⟩
theorem ok_shares {f : Addr} {fd : FuncData} (F : FunD K "shares" "shares" (defArgs s_shares) (defBody s_shares) (defScope s_shares) [] [("first", .int 0)] f fd) (c_need_asked : Cal P w K mg base 5 "need_asked" (spNeedAsked K)) (c_need_seat : Cal P w K mg base 2 "need_seat" (spNeedSeat K)) (c_rested : Cal P w K mg base 4 "rested" (spRested K)) :
    FnOk P w K mg base L2.CX0 6 f fd ["table", "dish", "first"] (spShares K) := by
  refine F.ok sc_shares (fun vs H Q E h => ?_) (fun cdv A outer s H vs Q E hr h => ?_)
  · obtain ⟨a, t, f, d, rfl, _⟩ := h
    rfl
  · obtain ⟨a, t, fs, d, rfl, tb, ok, hf, hd, hd1, k⟩ := h
    refine ⟨_, PSs.nox (pss_cons (ps_expr (pe_g c_need_asked hr (pa_cons (pv 0) (pa_cons (pv 1) pa_nil))))
      (pss_cons (ps_expr (pe_g c_need_seat hr (pa_cons (pv 0) (pa_cons (pv 2) pa_nil))))
      (pss_one (ps_ret (pe_ix ix_tup (pe_g c_rested hr (pa_cons (pv 0) (pa_cons (pv 1) (pa_cons (pv 2) pa_nil)))) pe_int (fun _ _ => rfl)))))), ?_⟩
    refine ⟨_, rfl, _, rfl, a, t, d, rfl, tb, ok, hd, hd1, fun H1 s1 => ?_⟩
    obtain ⟨xs, hx, hl, _⟩ := (tb.same s1).open
    refine ⟨_, rfl, _, rfl, a, xs, fs, rfl, hx, by rw [hl]; exact hf, ?_⟩
    refine ⟨_, rfl, _, rfl, _, rfl, a, t, fs, d, rfl, tb.same s1, ok, hf, hd, fun q l H2 s2 nl hq hl2 => ?_⟩
    exact ⟨q, _, _, _, rfl, rfl, SqT.of hq, rfl, k l H2 (s1.trans s2) (s1.free nl) hl2⟩
end
end Lp
namespace Lp
open PySem PySem.Spec PyProof.Rows L2
section
variable {P : Program} {w : World} {K : PySem.W.Frag} {mg : Str → Option Value} {base : Heap} {C : Addr}
/-! ### left -/
def spLeft (K : PySem.W.Frag) : Sp := fun vs H Q _ => ∃ (a : Addr) (t : List Guest) (f : Nat) (d : Int), vs = [.ref a, .int d, .int (f : Int)] ∧ TableAt K H a t ∧ TabOk t ∧ f < t.length ∧ 0 ≤ d ∧ d ≤ 1000000000000000000 ∧
  ∀ (H' : Hp), Same H H' → Q (.int (Fin t f d).left) H'
theorem sc_left : FnScope ["table", "dish", "first"] ["table", "dish", "first"] (defScope s_left) := ⟨rfl, rfl, rfl, by decide +kernel, rfl, by decide +kernel, by decide +kernel⟩
theorem ok_left {f : Addr} {fd : FuncData} (F : FunD K "left" "left" (defArgs s_left) (defBody s_left) (defScope s_left) [] [("first", .int 0)] f fd) (c_need_asked : Cal P w K mg base 5 "need_asked" (spNeedAsked K)) (c_need_seat : Cal P w K mg base 2 "need_seat" (spNeedSeat K)) (c_rested : Cal P w K mg base 4 "rested" (spRested K)) :
    FnOk P w K mg base L2.CX0 6 f fd ["table", "dish", "first"] (spLeft K) := by
  refine F.ok sc_left (fun vs H Q E h => ?_) (fun cdv A outer s H vs Q E hr h => ?_)
  · obtain ⟨a, t, f, d, rfl, _⟩ := h
    rfl
  · obtain ⟨a, t, fs, d, rfl, tb, ok, hf, hd, hd1, k⟩ := h
    refine ⟨_, PSs.nox (pss_cons (ps_expr (pe_g c_need_asked hr (pa_cons (pv 0) (pa_cons (pv 1) pa_nil))))
      (pss_cons (ps_expr (pe_g c_need_seat hr (pa_cons (pv 0) (pa_cons (pv 2) pa_nil))))
      (pss_one (ps_ret (pe_ix ix_tup (pe_g c_rested hr (pa_cons (pv 0) (pa_cons (pv 1) (pa_cons (pv 2) pa_nil)))) pe_int (fun _ _ => rfl)))))), ?_⟩
    refine ⟨_, rfl, _, rfl, a, t, d, rfl, tb, ok, hd, hd1, fun H1 s1 => ?_⟩
    obtain ⟨xs, hx, hl, _⟩ := (tb.same s1).open
    refine ⟨_, rfl, _, rfl, a, xs, fs, rfl, hx, by rw [hl]; exact hf, ?_⟩
    refine ⟨_, rfl, _, rfl, _, rfl, a, t, fs, d, rfl, tb.same s1, ok, hf, hd, fun q l H2 s2 nl hq hl2 => ?_⟩
    exact ⟨q, _, _, _, rfl, rfl, SqT.of hq, rfl, k H2 (s1.trans s2)⟩
end
end Lp
namespace Lp
open PySem PySem.Spec PyProof.Rows L2
section
variable {P : Program} {w : World} {K : PySem.W.Frag} {mg : Str → Option Value} {base : Heap} {C : Addr}
def spNeedNumber : Sp := fun vs H Q _ => ∃ i : Int, vs = [.int i] ∧ 1 ≤ i ∧ i ≤ 1000000000000000000 ∧ Q .non H
theorem sc_need_number : FnScope ["number"] ["number"] (defScope s_need_number) := ⟨rfl, rfl, rfl, by decide +kernel, rfl, by decide +kernel, by decide +kernel⟩
theorem ok_need_number {f : Addr} {fd : FuncData} (F : L2.Fun K "need_number" "need_number" s_need_number f fd) (B : Bls mg) (G : Greatest mg) (c_is_within : Cal P w K mg base 1 "is_within" (spWithin K)) : FnOk P w K mg base L2.CX0 2 f fd ["number"] spNeedNumber := by
  refine F.ok sc_need_number (fun vs H Q E h => ?_) (fun cdv A outer s H vs Q E hr h => ?_)
  · obtain ⟨i, rfl, _⟩ := h
    rfl
  · obtain ⟨i, rfl, h0, h1, k⟩ := h
    obtain ⟨gv, h_GREATEST, r_GREATEST⟩ := G
    refine ⟨_, (pss_one (ps_if (pt_not (pt_val (pe_g c_is_within hr (pa_cons (pv 0) (pa_cons pe_int (pa_cons (pe_glob (by rfl) h_GREATEST r_GREATEST) pa_nil))))))
      (pss_one ps_never)
      pss_nil)), ?_⟩
    refine ⟨_, rfl, _, _, _, _, rfl, .int i, ⟨_, rfl, ?_⟩⟩
    show if (!(decide (1 ≤ i) && decide (i ≤ 1000000000000000000))) = true then _ else _
    rw [decide_eq_true h0, decide_eq_true h1]
    exact iteF k
/-! ### taker -/
def spTaker (K : PySem.W.Frag) : Sp := fun vs H Q _ => ∃ (a : Addr) (t : List Guest) (f : Nat) (d b : Int), vs = [.ref a, .int d, .int b, .int (f : Int)] ∧ TableAt K H a t ∧ TabOk t ∧ f < t.length ∧ 0 ≤ d ∧ d ≤ 1000000000000000000 ∧ 1 ≤ b ∧ b ≤ 1000000000000000000 ∧
  (∀ (H' : Hp), Same H H' → d - (Fin t f d).left < b → Q .non H') ∧
  (∀ (k : Nat) (q : Addr) (H' : Hp), Same H H' → d - (St8 t f d k).left = b - 1 → d - (St8 t f d (k + 1)).left = b → H' q = some (.tup [.int (((f + k) % t.length : Nat) : Int), .int ((k + 1 : Nat) : Int)]) → Q (.ref q) H')
theorem sc_taker : FnScope ["table", "dish", "number", "first"] ["table", "dish", "number", "first"] (defScope s_taker) := ⟨rfl, rfl, rfl, by decide +kernel, rfl, by decide +kernel, by decide +kernel⟩
theorem ok_taker {f : Addr} {fd : FuncData} (F : FunD K "taker" "taker" (defArgs s_taker) (defBody s_taker) (defScope s_taker) [] [("first", .int 0)] f fd) (T : GoT K C) (c_need_asked : Cal P w K mg base 5 "need_asked" (spNeedAsked K)) (c_need_seat : Cal P w K mg base 2 "need_seat" (spNeedSeat K))
    (c_need_number : Cal P w K mg base 2 "need_number" spNeedNumber) (n_Going : Mak P w K mg base 1 "Going" C (spInit K C)) (m_go : Met P w K mg base 3 C "go" (spGo K C)) :
    FnOk P w K mg base L2.CX0 6 f fd ["table", "dish", "number", "first"] (spTaker K) := by
  refine F.ok sc_taker (fun vs H Q E h => ?_) (fun cdv A outer s H vs Q E hr h => ?_)
  · obtain ⟨a, t, f, d, b, rfl, _⟩ := h
    rfl
  · obtain ⟨a, t, fs, d, b, rfl, tb, ok, hf, hd, hd1, hb, hb1, kN, kT⟩ := h
    refine ⟨_, PSs.nox (pss_cons (ps_expr (pe_g c_need_asked hr (pa_cons (pv 0) (pa_cons (pv 1) pa_nil))))
      (pss_cons (ps_expr (pe_g c_need_number hr (pa_cons (pv 2) pa_nil)))
      (pss_cons (ps_expr (pe_g c_need_seat hr (pa_cons (pv 0) (pa_cons (pv 3) pa_nil))))
      (pss_one (ps_ret (pe_me m_go hr (pe_new n_Going hr (pa_cons (pv 0) (pa_cons (pv 1) (pa_cons (pv 3) pa_nil)))) (pa_cons (pv 2) pa_nil))))))), ?_⟩
    refine ⟨_, rfl, _, rfl, a, t, d, rfl, tb, ok, hd, hd1, fun H1 s1 => ?_⟩
    obtain ⟨xs, hx, hl, _⟩ := (tb.same s1).open
    refine ⟨_, rfl, b, rfl, hb, hb1, ?_⟩
    refine ⟨_, rfl, _, rfl, a, xs, fs, rfl, hx, by rw [hl]; exact hf, ?_⟩
    refine ⟨_, rfl, _, rfl, _, rfl, fun x dx nx ndx nex => ?_⟩
    refine ⟨x, dx, a, H1, t, fs, d, rfl, same_made nx ndx, nx, upd_same, tb.same s1, ok, hf, fun l H2 G => ⟨rfl, ?_⟩⟩
    refine ⟨x, dx, _, rfl, G.ob, gf_no (by decide +kernel) (by decide +kernel) (by decide +kernel) (by decide +kernel) (by decide +kernel) (by decide +kernel), ?_⟩
    refine ⟨_, rfl, H1, x, a, dx, l, t, fs, d, some b, rfl, G, tb.same s1, ok, hf, (fun b' e => by cases e; exact hb), fun n H3 G3 qt lt => ?_, fun n q b' H3 e e1 e2 s3 hq => ?_⟩
    · have e := fin_at ok hd qt
      have := lt b rfl
      rw [e] at this
      exact kN H3 (s1.trans G3.same) this
    · cases e
      exact kT n q H3 (s1.trans s3) e1 e2 hq
end
end Lp
namespace Lp
open PySem PySem.Spec PyProof.Rows L2
/-! ### heaps in which bags turn -/
/-- all stands as it was, but that a bag's place (a list [draws, place]) may be another -/
def Evo (H H' : Hp) : Prop := ∀ a o, H a = some o → H' a = some o ∨ ∃ (l : Addr) (i j : Int), o = .lst [.ref l, .int i] ∧ H' a = some (.lst [.ref l, .int j]) ∧ (0 ≤ i → 0 ≤ j)
theorem Evo.refl (H : Hp) : Evo H H := fun _ _ h => .inl h
theorem Evo.trans {H H1 H2 : Hp} (e1 : Evo H H1) (e2 : Evo H1 H2) : Evo H H2 := fun a o h => by
  rcases e1 a o h with h1 | ⟨l, i, j, rfl, h1, p1⟩
  · exact e2 a o h1
  · rcases e2 a _ h1 with h2 | ⟨l', i', j', q, h2, p2⟩
    · exact .inr ⟨l, i, j, rfl, h2, p1⟩
    · cases q
      exact .inr ⟨l, i, j', rfl, h2, fun z => p2 (p1 z)⟩
theorem Same.evo {H H' : Hp} (s : Same H H') : Evo H H' := fun a o h => .inl (s a o h)
theorem Evo.keep {H H' : Hp} (e : Evo H H') {a : Addr} {o : HO} (h : H a = some o) (no : ∀ l i, o ≠ .lst [.ref l, .int i]) : H' a = some o := by
  rcases e a o h with h1 | ⟨l, i, j, q, _⟩
  · exact h1
  · exact absurd q (no l i)
theorem Evo.free {H H' : Hp} (e : Evo H H') {a : Addr} (h : H' a = none) : H a = none := by
  cases q : H a with
  | none => rfl
  | some o =>
    rcases e a o q with h1 | ⟨_, _, _, _, h1, _⟩
    · rw [h] at h1; cases h1
    · rw [h] at h1; cases h1
section
variable {K : PySem.W.Frag} {H H' : Hp} {a : Addr}
theorem Evo.sqt (e : Evo H H') {xs : List V} (h : SqT K H a xs) : SqT K H' a xs := by
  rcases h with (h | ⟨o, h⟩) | h
  · exact .inl (.inl (e.keep h fun _ _ z => by cases z))
  · exact .inl (.inr ⟨o, e.keep h fun _ _ z => by cases z⟩)
  · exact .inr h
theorem Evo.sql (e : Evo H H') {xs : List V} (h : SqL K H a xs) (no : ∀ l i, xs ≠ [.ref l, .int i]) : SqL K H' a xs := by
  rcases h with (h | ⟨o, h⟩) | h
  · exact .inl (.inl (e.keep h fun l i z => no l i (HO.lst.inj z)))
  · exact .inl (.inr ⟨o, e.keep h fun _ _ z => by cases z⟩)
  · exact .inr h
theorem ints_no {ns : List Int} (l : Addr) (i : Int) : ns.map V.int ≠ [.ref l, .int i] := fun z => by
  cases ns with
  | nil => cases z
  | cons _ _ => cases z
theorem refs_no {ps : List Addr} (l : Addr) (i : Int) : ps.map V.ref ≠ [.ref l, .int i] := fun z => by
  cases ps with
  | nil => cases z
  | cons _ r =>
    cases r with
    | nil => cases z
    | cons _ _ => cases z
theorem Evo.ints (e : Evo H H') {ns : List Int} (h : SqL K H a (ns.map V.int)) : SqL K H' a (ns.map V.int) := e.sql h ints_no
theorem Evo.intsH (e : Evo H H') {ns : List Int} (h : H a = some (.lst (ns.map V.int))) : H' a = some (.lst (ns.map V.int)) := e.keep h fun l i z => ints_no l i (HO.lst.inj z)
theorem Evo.refsH (e : Evo H H') {ps : List Addr} (h : H a = some (.lst (ps.map V.ref))) : H' a = some (.lst (ps.map V.ref)) := e.keep h fun l i z => refs_no l i (HO.lst.inj z)
theorem Evo.tupH (e : Evo H H') {xs : List V} (h : H a = some (.tup xs)) : H' a = some (.tup xs) := e.keep h fun l i z => by cases z
/-- data without lists -/
inductive NoL : PyData → Prop
  | non : NoL .none
  | bl (b : Bool) : NoL (.bool b)
  | int (i : Int) : NoL (.int i)
  | str (x : Str) : NoL (.str x)
  | tup {ds : List PyData} (h : ∀ d ∈ ds, NoL d) : NoL (.tuple ds)
theorem dp_evo (e : Evo H H') {v : V} {d : PyData} (n : NoL d) (h : Dp K H v d) : Dp K H' v d := by
  have key : ∀ (n : Nat), (∀ (d : PyData) (v : V), sizeOf d < n → NoL d → Dp K H v d → Dp K H' v d) ∧ ∀ (ds : List PyData) (vs : List V), sizeOf ds < n → (∀ d ∈ ds, NoL d) → DpAll K H vs ds → DpAll K H' vs ds := by
    intro n
    induction n with
    | zero => exact ⟨fun _ _ h => absurd h (Nat.not_lt_zero _), fun _ _ h => absurd h (Nat.not_lt_zero _)⟩
    | succ n ih =>
      refine ⟨fun d v hn hl h => ?_, fun ds vs hn hl h => ?_⟩
      · cases h with
        | non => exact .non
        | bl b => exact .bl b
        | int i => exact .int i
        | str x => exact .str x
        | lst hs ha => cases hl
        | tup hs ha =>
          cases hl with
          | tup hl => exact .tup (e.sqt hs) (ih.2 _ _ (by simp only [PyData.tuple.sizeOf_spec] at hn; omega) hl ha)
      · cases h with
        | nil => exact .nil
        | cons h1 h2 =>
          simp only [List.cons.sizeOf_spec] at hn
          exact .cons (ih.1 _ _ (by omega) (hl _ List.mem_cons_self) h1) (ih.2 _ _ (by omega) (fun d hd => hl d (List.mem_cons_of_mem _ hd)) h2)
  exact (key (sizeOf d + 1)).1 d v (Nat.lt_succ_self _) n h
theorem tab_noL (t : List Guest) : NoL (tabD t) := .tup fun d hd => by
  obtain ⟨g, _, rfl⟩ := List.mem_map.mp hd
  obtain ⟨c, e⟩ := g
  refine .tup fun x hx => ?_
  rcases List.mem_cons.mp hx with h | hx
  · rw [h]; exact .int _
  · have : x = optD e := by simpa using hx
    rw [this]
    cases e with
    | none => exact .non
    | some m => exact .int m
theorem TableAt.evo {t : List Guest} (h : TableAt K H a t) (e : Evo H H') : TableAt K H' a t := dp_evo e (tab_noL t) h
/-- a bag of draws -/
def BagAt (K : PySem.W.Frag) (H : Hp) (b : Addr) : Prop := ∃ (l : Addr) (i : Int) (ns : List Int), H b = some (.lst [.ref l, .int i]) ∧ 0 ≤ i ∧ SqL K H l (ns.map V.int) ∧ ns.length = 400 ∧ ∀ n ∈ ns, 0 ≤ n ∧ n < 1000
theorem BagAt.evo {b : Addr} (h : BagAt K H b) (e : Evo H H') : BagAt K H' b := by
  obtain ⟨l, i, ns, h1, h2, h3, h4, h5⟩ := h
  rcases e b _ h1 with q | ⟨l', i', j, q, h6, h7⟩
  · exact ⟨l, i, ns, q, h2, e.ints h3, h4, h5⟩
  · cases q
    exact ⟨l, j, ns, h6, h7 h2, e.ints h3, h4, h5⟩
end
end Lp
namespace Lp
open PySem PySem.Spec PyProof.Rows L2
/-! ### heaps in which bags turn and tables of code objects grow -/
/-- all stands as it was, but that a bag's place (a list [draws, place]) may be another; tables of code objects may grow -/
def Evw (H H' : Hp) : Prop := ∀ a o, H a = some o → H' a = some o ∨ (∃ (l : Addr) (i j : Int), o = .lst [.ref l, .int i] ∧ H' a = some (.lst [.ref l, .int j]) ∧ (0 ≤ i → 0 ≤ j)) ∨ ((∃ ps, o = .tbl ps) ∧ H' a ≠ none)
theorem Evw.there {H H' : Hp} (e : Evw H H') {a : Addr} {o : HO} (h : H a = some o) : H' a ≠ none := by
  rcases e a o h with h1 | ⟨_, _, _, _, h1, _⟩ | ⟨_, h1⟩
  · rw [h1]; exact fun z => nomatch z
  · rw [h1]; exact fun z => nomatch z
  · exact h1
theorem Evw.refl (H : Hp) : Evw H H := fun _ _ h => .inl h
theorem Evw.trans {H H1 H2 : Hp} (e1 : Evw H H1) (e2 : Evw H1 H2) : Evw H H2 := fun a o h => by
  rcases e1 a o h with h1 | ⟨l, i, j, rfl, h1, p1⟩ | ⟨tb, h1⟩
  · exact e2 a o h1
  · rcases e2 a _ h1 with h2 | ⟨l', i', j', q, h2, p2⟩ | ⟨⟨ps, q⟩, _⟩
    · exact .inr (.inl ⟨l, i, j, rfl, h2, p1⟩)
    · cases q
      exact .inr (.inl ⟨l, i, j', rfl, h2, fun z => p2 (p1 z)⟩)
    · cases q
  · refine .inr (.inr ⟨tb, ?_⟩)
    cases q : H1 a with
    | none => exact absurd q h1
    | some u => exact e2.there q
theorem Same.evw {H H' : Hp} (s : Same H H') : Evw H H' := fun a o h => .inl (s a o h)
theorem Evw.keep {H H' : Hp} (e : Evw H H') {a : Addr} {o : HO} (h : H a = some o) (no : ∀ l i, o ≠ .lst [.ref l, .int i]) (nt : ∀ ps, o ≠ .tbl ps := by intro _ z; cases z) : H' a = some o := by
  rcases e a o h with h1 | ⟨l, i, j, q, _⟩ | ⟨⟨ps, q⟩, _⟩
  · exact h1
  · exact absurd q (no l i)
  · exact absurd q (nt ps)
theorem Evw.free {H H' : Hp} (e : Evw H H') {a : Addr} (h : H' a = none) : H a = none := by
  cases q : H a with
  | none => rfl
  | some o => exact absurd h (e.there q)
section
variable {K : PySem.W.Frag} {H H' : Hp} {a : Addr}
theorem Evw.sqt (e : Evw H H') {xs : List V} (h : SqT K H a xs) : SqT K H' a xs := by
  rcases h with (h | ⟨o, h⟩) | h
  · exact .inl (.inl (e.keep h fun _ _ z => by cases z))
  · exact .inl (.inr ⟨o, e.keep h fun _ _ z => by cases z⟩)
  · exact .inr h
theorem Evw.sql (e : Evw H H') {xs : List V} (h : SqL K H a xs) (no : ∀ l i, xs ≠ [.ref l, .int i]) : SqL K H' a xs := by
  rcases h with (h | ⟨o, h⟩) | h
  · exact .inl (.inl (e.keep h fun l i z => no l i (HO.lst.inj z)))
  · exact .inl (.inr ⟨o, e.keep h fun _ _ z => by cases z⟩)
  · exact .inr h
theorem Evw.ints (e : Evw H H') {ns : List Int} (h : SqL K H a (ns.map V.int)) : SqL K H' a (ns.map V.int) := e.sql h ints_no
theorem Evw.intsH (e : Evw H H') {ns : List Int} (h : H a = some (.lst (ns.map V.int))) : H' a = some (.lst (ns.map V.int)) := e.keep h fun l i z => ints_no l i (HO.lst.inj z)
theorem Evw.refsH (e : Evw H H') {ps : List Addr} (h : H a = some (.lst (ps.map V.ref))) : H' a = some (.lst (ps.map V.ref)) := e.keep h fun l i z => refs_no l i (HO.lst.inj z)
theorem Evw.tupH (e : Evw H H') {xs : List V} (h : H a = some (.tup xs)) : H' a = some (.tup xs) := e.keep h fun l i z => by cases z
theorem dp_evw (e : Evw H H') {v : V} {d : PyData} (n : NoL d) (h : Dp K H v d) : Dp K H' v d := by
  have key : ∀ (n : Nat), (∀ (d : PyData) (v : V), sizeOf d < n → NoL d → Dp K H v d → Dp K H' v d) ∧ ∀ (ds : List PyData) (vs : List V), sizeOf ds < n → (∀ d ∈ ds, NoL d) → DpAll K H vs ds → DpAll K H' vs ds := by
    intro n
    induction n with
    | zero => exact ⟨fun _ _ h => absurd h (Nat.not_lt_zero _), fun _ _ h => absurd h (Nat.not_lt_zero _)⟩
    | succ n ih =>
      refine ⟨fun d v hn hl h => ?_, fun ds vs hn hl h => ?_⟩
      · cases h with
        | non => exact .non
        | bl b => exact .bl b
        | int i => exact .int i
        | str x => exact .str x
        | lst hs ha => cases hl
        | tup hs ha =>
          cases hl with
          | tup hl => exact .tup (e.sqt hs) (ih.2 _ _ (by simp only [PyData.tuple.sizeOf_spec] at hn; omega) hl ha)
      · cases h with
        | nil => exact .nil
        | cons h1 h2 =>
          simp only [List.cons.sizeOf_spec] at hn
          exact .cons (ih.1 _ _ (by omega) (hl _ List.mem_cons_self) h1) (ih.2 _ _ (by omega) (fun d hd => hl d (List.mem_cons_of_mem _ hd)) h2)
  exact (key (sizeOf d + 1)).1 d v (Nat.lt_succ_self _) n h
theorem TableAt.evw {t : List Guest} (h : TableAt K H a t) (e : Evw H H') : TableAt K H' a t := dp_evw e (tab_noL t) h
theorem BagAt.evw {b : Addr} (h : BagAt K H b) (e : Evw H H') : BagAt K H' b := by
  obtain ⟨l, i, ns, h1, h2, h3, h4, h5⟩ := h
  rcases e b _ h1 with q | ⟨l', i', j, q, h6, h7⟩ | ⟨⟨_, q⟩, _⟩
  · exact ⟨l, i, ns, q, h2, e.ints h3, h4, h5⟩
  · cases q
    exact ⟨l, j, ns, h6, h7 h2, e.ints h3, h4, h5⟩
  · cases q
end
theorem Evo.w {H H' : Hp} (e : Evo H H') : Evw H H' := fun a o h => by
  rcases e a o h with h1 | ⟨l, i, j, q, h1, p⟩
  · exact .inl h1
  · exact .inr (.inl ⟨l, i, j, q, h1, p⟩)
/-- all but the tables is kept, nothing is gone -/
def EvN (H H' : Hp) : Prop := LamX.ExtN H H' ∧ ∀ a, H' a = none → H a = none
theorem EvN.w {H H' : Hp} (e : EvN H H') : Evw H H' := fun a o h => by
  by_cases t : ∃ ps, o = .tbl ps
  · exact .inr (.inr ⟨t, fun z => by have := e.2 a z; rw [h] at this; cases this⟩)
  · exact .inl (e.1 a o h fun ps z => t ⟨ps, z⟩)
theorem EvN.refl (H : Hp) : EvN H H := ⟨LamX.ExtN.refl H, fun _ h => h⟩
theorem EvN.trans {H H1 H2 : Hp} (a : EvN H H1) (b : EvN H1 H2) : EvN H H2 := ⟨a.1.trans b.1, fun x h => a.2 x (b.2 x h)⟩
theorem Same.evn {H H' : Hp} (s : Same H H') : EvN H H' := ⟨.of s, fun a h => by
  cases q : H a with
  | none => rfl
  | some o => rw [s a o q] at h; cases h⟩
theorem Evo.tabs {T : List NdefX.NTab} {H H' : Hp} (e : Evo H H') (h : NdefX.TabsN T H) : NdefX.TabsN T H' := fun p hp => by
  obtain ⟨ps, h1, h2, h3⟩ := h p hp
  refine ⟨ps, e.keep h1 (fun _ _ z => by cases z), h2, fun pos cv hc => ?_⟩
  obtain ⟨c, e1, e2⟩ := h3 pos cv hc
  exact ⟨c, e1, e.keep e2 (fun _ _ z => by unfold LamX.CodeO at z; cases z)⟩
theorem Same.tabs {T : List NdefX.NTab} {H H' : Hp} (s : Same H H') (h : NdefX.TabsN T H) : NdefX.TabsN T H' := (Same.evo s).tabs h
section
variable {K : PySem.W.Frag} {H H' : Hp} {a : Addr}
theorem EvN.sqt (e : EvN H H') {xs : List V} (h : SqT K H a xs) : SqT K H' a xs := e.w.sqt h
theorem EvN.sql (e : EvN H H') {xs : List V} (h : SqL K H a xs) : SqL K H' a xs := by
  rcases h with (h | ⟨o, h⟩) | h
  · exact .inl (.inl (e.1 _ _ h fun _ z => by cases z))
  · exact .inl (.inr ⟨o, e.1 _ _ h fun _ z => by cases z⟩)
  · exact .inr h
theorem TableAt.evn {t : List Guest} (h : TableAt K H a t) (e : EvN H H') : TableAt K H' a t := h.evw e.w
end
open LamX NdefX
theorem tabs_upd {T : List NTab} {H : Hp} {l : Addr} {xs ys : List V} (h : TabsN T H) (hl : H l = some (.lst xs)) : TabsN T (upd H l (.lst ys)) := fun p hp => by
  obtain ⟨ps, h1, h2, h3⟩ := h p hp
  refine ⟨ps, by rw [upd_ne (ne_of h1 hl (by intro z; cases z))]; exact h1, h2, fun pos cv hc => ?_⟩
  obtain ⟨c, e1, e2⟩ := h3 pos cv hc
  exact ⟨c, e1, by rw [upd_ne (ne_of e2 hl (by unfold CodeO; intro z; cases z))]; exact e2⟩
theorem evn_kept {H H1 : Hp} {l : Addr} {o : HO} (e : EvN H H1) (hl : H l = none) : EvN H (upd H1 l o) :=
  ⟨fun a u h n => by rw [upd_ne (ne_of_none h hl)]; exact e.1 a u h n, fun a h => e.2 a (upd_none h)⟩
theorem EvN.lst {H H' : Hp} (e : EvN H H') {a : Addr} {xs : List V} (h : H a = some (.lst xs)) : H' a = some (.lst xs) := e.1 _ _ h fun _ z => by cases z
theorem EvN.tup {H H' : Hp} (e : EvN H H') {a : Addr} {xs : List V} (h : H a = some (.tup xs)) : H' a = some (.tup xs) := e.1 _ _ h fun _ z => by cases z
end Lp
namespace Lp
open PySem PySem.Spec PyProof.Rows L2
section
variable {P : Program} {w : World} {K : PySem.W.Frag} {mg : Str → Option Value} {base : Heap}
/-! ### the law's draws -/
def spCell (K : PySem.W.Frag) : Sp := fun vs H Q _ => ∃ (a : Addr) (ns : List Int) (k : Int), vs = [.ref a, .int k] ∧ SqL K H a (ns.map V.int) ∧ 0 ≤ k ∧ ∀ z : Int, Q (.int z) H
theorem sc_law_cell_at : FnScope ["script", "k"] ["script", "k"] (defScope s_law_cell_at) := ⟨rfl, rfl, rfl, by decide +kernel, rfl, by decide +kernel, by decide +kernel⟩
theorem ok_cell {f : Addr} {fd : FuncData} (F : L2.Fun K "_law_cell_at" "_law_cell_at" s_law_cell_at f fd) (B : Bls mg) : FnOk P w K mg base L2.CX0 1 f fd ["script", "k"] (spCell K) := by
  refine F.ok sc_law_cell_at (fun vs H Q E h => ?_) (fun cdv A outer s H vs Q E hr h => ?_)
  · obtain ⟨a, ns, k, rfl, _⟩ := h
    rfl
  · obtain ⟨a, ns, k, rfl, hs, h0, q⟩ := h
    refine ⟨_, (pss_cons (ps_if (pt_cmpR op_lt (pv 1) (pe_len B (pv 0)) (nomark _))
      (pss_one (ps_ret (pe_ix ix_list (pv 0) (pv 1) (fun _ _ => rfl))))
      pss_nil)
      (pss_one (ps_ret pe_int))), ?_⟩
    refine ⟨_, rfl, _, rfl, a, _, rfl, .inl hs, _, _, rfl, rfl, _, rfl, ?_⟩
    refine ite2 (fun c => ?_) (fun c => ?_)
    · have lt := of_decide_eq_true c
      rw [List.length_map] at lt
      have hk : k.toNat < ns.length := by omega
      refine ⟨_, rfl, _, rfl, a, _, _, _, rfl, rfl, hs, at_of (j := k.toNat) (by omega) (map_at (List.getElem?_eq_getElem hk)), q _⟩
    · exact q 0
def spDraws : Sp := fun vs H Q _ => ∃ (cell : Int), vs = [.int cell, .int 400, .int 1000] ∧ ∀ (l : Addr) (ns : List Int) (H' : Hp), Same H H' → H l = none → H' l = some (.lst (ns.map V.int)) → ns.length = 400 → (∀ n ∈ ns, 0 ≤ n ∧ n < 1000) → Q (.ref l) H'
theorem sc_law_draws : FnScope ["cell", "many", "size", "found", "rest", "stirred", "k"] ["cell", "many", "size"] (defScope s_law_draws) := ⟨rfl, rfl, rfl, by decide +kernel, rfl, by decide +kernel, by decide +kernel⟩
theorem ok_draws {f : Addr} {fd : FuncData} (F : L2.Fun K "_law_draws" "_law_draws" s_law_draws f fd) (B : Bls mg) : FnOk P w K mg base L2.CX0 1 f fd ["cell", "many", "size"] spDraws := by
  refine F.ok sc_law_draws (fun vs H Q E h => ?_) (fun cdv A outer s H vs Q E hr h => ?_)
  · obtain ⟨cell, rfl, _⟩ := h
    rfl
  · obtain ⟨cell, rfl, q⟩ := h
    refine ⟨_, (pss_cons (ps_set (i := 3) sc_law_draws.nd rfl (Or.inl rfl) (pe_lst pa_nil))
      (pss_cons (ps_set (i := 4) sc_law_draws.nd rfl (Or.inl rfl) (pe_op op_mul (pv 0) (pe_callTy call_int1 (by rfl) B.int (by decide +kernel) (pa_cons (pe_cmpR op_ge (pv 0) (pe_op op_pow pe_int pe_int) (nomark _)) pa_nil))))
      (pss_cons (ps_set (i := 5) sc_law_draws.nd rfl (Or.inl rfl) (pe_op op_mod (pv 0) pe_int))
      (pss_cons (ps_for PassesOwn.never rfl (pi_range1 (by rfl) B.range (pa_cons (pe_op op_add (pv 1) pe_int) pa_nil)) (pg_name (i := 6) sc_law_draws.nd rfl (Or.inl rfl))
      (pss_cons (ps_set (i := 5) sc_law_draws.nd rfl (Or.inl rfl) (pe_op op_mod (pe_op op_add (pe_op op_add (pe_op op_add (pe_op op_mul (pv 5) (pv 5)) (pe_op op_mul pe_int (pv 5))) (pv 6)) pe_int) pe_int))
      (pss_one (ps_if (PW.pt (pw_and (pt_cmpR op_gt (pv 6) pe_int (nomark _)) (pw_and1 (pt_cmpR op_gt (pv 4) pe_int (nomark _)))))
      (pss_cons (ps_expr (pe_bm PySem.F.plainAttrs_list PySem.F.slot_list_append PySem.F.type_list_append mt_append (pv 3) (pa_cons (pe_op op_mod (pv 4) (pv 2)) pa_nil)))
      (pss_one (ps_set (i := 4) sc_law_draws.nd rfl (Or.inl rfl) (pe_op op_fdiv (pv 4) (pv 2)))))
      (pss_one (ps_if (pt_cmpR op_gt (pv 6) pe_int (nomark _))
      (pss_one (ps_expr (pe_bm PySem.F.plainAttrs_list PySem.F.slot_list_append PySem.F.type_list_append mt_append (pv 3) (pa_cons (pe_op op_mod (pe_op op_fdiv (pv 5) pe_int) (pv 2)) pa_nil))))
      pss_nil))))))
      (pss_one (ps_ret (pv 3))))))), ?_⟩
    refine ⟨Nat.zero_le _, fun l hl => ?_⟩
    refine ⟨_, rfl, _, rfl, _, _, rfl, rfl, ⟨by decide, by decide, by decide⟩, _, _, rfl, rfl, .inr ⟨_, rfl, _, _, rfl, rfl, .inr ?_, ?_⟩⟩
    · split <;> exact ⟨by decide, by decide⟩
    refine ⟨_, rfl, _, _, rfl, rfl, by show (0 : Int) < 2305843009213693951; decide, ?_⟩
    have e0 := Int.emod_nonneg cell (show (2305843009213693951 : Int) ≠ 0 by decide)
    have e1 := Int.emod_lt_of_pos cell (show (0 : Int) < 2305843009213693951 by decide)
    refine ⟨_, rfl, _, _, rfl, rfl, _, rfl, by decide, by decide, for_range (lo := 0) (n := (403 : Int).toNat) (fun i σ H' => ∃ (rest stirred : Int) (v : Option V) (ns : List Int), σ = [some (.int cell), some (.int 400), some (.int 1000), some (.ref l), some (.int rest), some (.int stirred), v] ∧
      (∀ b o, H b = some o → H' b = some o) ∧ H' l = some (.lst (ns.map V.int)) ∧ ns.length = i - 3 ∧ (∀ n ∈ ns, 0 ≤ n ∧ n < 1000) ∧ 0 ≤ stirred ∧ stirred < 2305843009213693951)
      ⟨_, _, none, [], rfl, same_upd hl, upd_same, rfl, (fun n hn => by cases hn), e0, e1⟩ ?_ ?_⟩
    · rintro i σ H' hi ⟨rest, stirred, v, ns, rfl, sm, hq, hlen, hns, s0, s1⟩
      have hi' : i < 403 := hi
      refine ⟨_, rfl, _, rfl, _, _, rfl, rfl, .inl ⟨by omega, by omega⟩, _, rfl, _, _, rfl, rfl, .inl ⟨by decide, by decide⟩, _, _, rfl, rfl, _, rfl, _, _, rfl, rfl, _, _, rfl, rfl, _, _, rfl, rfl, by show (0 : Int) < 2305843009213693951; decide, ?_⟩
      have t0 := Int.emod_nonneg (stirred * stirred + 48271 * stirred + (0 + (i : Int)) + 1) (show (2305843009213693951 : Int) ≠ 0 by decide)
      have t1 := Int.emod_lt_of_pos (stirred * stirred + 48271 * stirred + (0 + (i : Int)) + 1) (show (0 : Int) < 2305843009213693951 by decide)
      -- one more is put down
      have more : ∀ (z : Int), 0 ≤ z → z < 1000 → 3 ≤ i → (∀ b o, H b = some o → (upd H' l (.lst (ns.map V.int ++ [V.int z]))) b = some o) ∧ (upd H' l (.lst (ns.map V.int ++ [V.int z]))) l = some (.lst ((ns ++ [z]).map V.int)) ∧ (ns ++ [z]).length = i + 1 - 3 ∧ ∀ n ∈ ns ++ [z], 0 ≤ n ∧ n < 1000 := fun z z0 z1 h3 => by
        refine ⟨fun b o e => ?_, ?_, ?_, fun n hn => ?_⟩
        · rw [upd_ne (ne_of_none e hl)]
          exact sm b o e
        · rw [upd_same, List.map_append]
          rfl
        · rw [List.length_append, List.length_singleton]
          omega
        · rcases List.mem_append.mp hn with hn | hn
          · exact hns n hn
          · have : n = z := by simpa using hn
            rw [this]; exact ⟨z0, z1⟩
      have hz : (ns.map V.int).length < sizeLine := by rw [List.length_map]; exact small1000 (by omega)
      have m0 : ∀ z : Int, 0 ≤ z % 1000 ∧ z % 1000 < 1000 := fun z => ⟨Int.emod_nonneg _ (by decide), Int.emod_lt_of_pos _ (by decide)⟩
      refine ⟨_, rfl, _, _, rfl, rfl, _, rfl, ?_⟩
      refine ite2 (fun c1 => ?_) (fun c1 => ?_)
      · have i3 : 3 ≤ i := by have := of_decide_eq_true c1; omega
        refine ⟨_, rfl, _, _, rfl, rfl, _, rfl, ?_⟩
        refine ite2 (fun c2 => ?_) (fun c2 => ?_)
        · refine ⟨_, rfl, .inl ⟨rfl, _, SqL.of hq⟩, _, rfl, _, rfl, _, _, rfl, rfl, by show (0 : Int) < 1000; decide, l, _, _, rfl, rfl, hq, hz, ?_⟩
          refine ⟨_, rfl, _, rfl, _, _, rfl, rfl, ⟨by decide, by decide⟩, ?_⟩
          obtain ⟨m1, m2, m3, m4⟩ := more _ (m0 rest).1 (m0 rest).2 i3
          exact ⟨_, _, _, _, rfl, m1, m2, m3, m4, t0, t1⟩
        · refine ⟨_, rfl, _, _, rfl, rfl, _, rfl, ?_⟩
          rw [c1]
          refine iteT ⟨_, rfl, .inl ⟨rfl, _, SqL.of hq⟩, _, rfl, _, _, rfl, rfl, ⟨by decide, by decide⟩, _, rfl, _, _, rfl, rfl, by show (0 : Int) < 1000; decide, l, _, _, rfl, rfl, hq, hz, ?_⟩
          obtain ⟨m1, m2, m3, m4⟩ := more _ (m0 ((stirred * stirred + 48271 * stirred + (0 + (i : Int)) + 1) % 2305843009213693951 / 4096)).1 (m0 ((stirred * stirred + 48271 * stirred + (0 + (i : Int)) + 1) % 2305843009213693951 / 4096)).2 i3
          exact ⟨_, _, _, _, rfl, m1, m2, m3, m4, t0, t1⟩
      · have i3 : i < 3 := by
          have : ¬ ((2 : Int) < 0 + (i : Int)) := fun z => c1 (decide_eq_true z)
          omega
        refine ⟨_, rfl, _, _, rfl, rfl, _, rfl, ?_⟩
        rw [Bool.eq_false_iff.mpr c1]
        exact iteF ⟨_, _, _, ns, rfl, sm, hq, by omega, hns, t0, t1⟩
    · rintro σ H' ⟨rest, stirred, v, ns, rfl, sm, hq, hlen, hns, _⟩
      exact ⟨_, rfl, q l ns H' sm hl hq hlen hns⟩
def spBag (K : PySem.W.Frag) : Sp := fun vs H Q _ => ∃ (a : Addr) (ns : List Int) (k : Int), vs = [.ref a, .int k] ∧ SqL K H a (ns.map V.int) ∧ 0 ≤ k ∧ ∀ (b : Addr) (H' : Hp), Same H H' → H b = none → BagAt K H' b → Q (.ref b) H'
theorem sc_law_bag : FnScope ["script", "k"] ["script", "k"] (defScope s_law_bag) := ⟨rfl, rfl, rfl, by decide +kernel, rfl, by decide +kernel, by decide +kernel⟩
theorem ok_bag {f : Addr} {fd : FuncData} (F : L2.Fun K "_law_bag" "_law_bag" s_law_bag f fd) (c_law_cell_at : Cal P w K mg base 1 "_law_cell_at" (spCell K)) (c_law_draws : Cal P w K mg base 1 "_law_draws" spDraws) : FnOk P w K mg base L2.CX0 2 f fd ["script", "k"] (spBag K) := by
  refine F.ok sc_law_bag (fun vs H Q E h => ?_) (fun cdv A outer s H vs Q E hr h => ?_)
  · obtain ⟨a, ns, k, rfl, _⟩ := h
    rfl
  · obtain ⟨a, ns, k, rfl, hs, h0, q⟩ := h
    refine ⟨_, (pss_one (ps_ret (pe_lst (pa_cons (pe_g c_law_draws hr (pa_cons (pe_g c_law_cell_at hr (pa_cons (pv 0) (pa_cons (pv 1) pa_nil))) (pa_cons pe_int (pa_cons pe_int pa_nil)))) (pa_cons pe_int pa_nil))))), ?_⟩
    refine ⟨_, rfl, _, rfl, a, ns, k, rfl, hs, h0, fun z => ⟨z, rfl, fun l ms H1 s1 nl hl hm hms => ?_⟩⟩
    refine ⟨by show 2 ≤ sizeLine; decide, fun b hb => ?_⟩
    exact q b _ (s1.trans (same_upd hb)) (s1.free hb) ⟨l, 0, ms, upd_same, by decide, SqL.of (same_upd hb _ _ hl), hm, hms⟩
def spBags (K : PySem.W.Frag) : Sp := fun vs H Q _ => ∃ (a : Addr) (ns : List Int) (n : Int), vs = [.ref a, .int n] ∧ SqL K H a (ns.map V.int) ∧ 1 ≤ n ∧ n ≤ 100 ∧
  ∀ (l : Addr) (bs : List Addr) (H' : Hp), Same H H' → H l = none → H' l = some (.lst (bs.map V.ref)) → (∀ b ∈ bs, BagAt K H' b) → Q (.ref l) H'
theorem sc_law_bags : FnScope ["script", "limit", "k"] ["script", "limit"] (defScope s_law_bags) := ⟨rfl, rfl, rfl, by decide +kernel, rfl, by decide +kernel, by decide +kernel⟩
theorem ok_bags {f : Addr} {fd : FuncData} (F : L2.Fun K "_law_bags" "_law_bags" s_law_bags f fd) (B : Bls mg) (c_law_bag : Cal P w K mg base 2 "_law_bag" (spBag K)) : FnOk P w K mg base L2.CX0 3 f fd ["script", "limit"] (spBags K) := by
  refine F.ok sc_law_bags (fun vs H Q E h => ?_) (fun cdv A outer s H vs Q E hr h => ?_)
  · obtain ⟨a, ns, n, rfl, _⟩ := h
    rfl
  · obtain ⟨a, ns, n, rfl, hs, h1, h2, q⟩ := h
    refine ⟨_, (pss_one (ps_ret (pe_lc (own := [("k", 2)]) (g := gName 2)  (tt := tYes) (by rfl) sc_law_bags.nd (pi_range1 (by rfl) B.range (pa_cons (pe_callB (call_max2 rfl) (by rfl) B.max (by decide +kernel) (pa_cons pe_int (pa_cons (pe_callB (call_min2 rfl) (by rfl) B.min (by decide +kernel) (pa_cons (pv 1) (pa_cons (pe_len B (pv 0)) pa_nil))) pa_nil))) pa_nil)) (blkOk_by (own := [("k", 2)]) (N := ["script", "limit", "k"]) (sc := defScope s_law_bags) (by decide +kernel)) (fun _ _ _ _ _ => by exact (pg_name (i := 2) sc_law_bags.nd rfl (Or.inl rfl))) (fun _ _ _ _ _ => by exact pts_nil) (fun _ _ _ _ _ => by exact (pe_g c_law_bag hr (pa_cons (pv 0) (pa_cons (pv 2) pa_nil))))))), ?_⟩
    refine ⟨_, rfl, _, rfl, a, _, rfl, .inl hs, _, _, rfl, _, _, rfl, _, rfl, ?_, ?_, fun D hD => ?_⟩
    · split <;> split <;> omega
    · split <;> split <;> omega
    refine lc_range (lo := 0) (n := Int.toNat _) (fun i H' => Same H H' ∧ ∃ bs : List Addr, H' D = some (.lst (bs.map V.ref)) ∧ bs.length = i ∧ ∀ b ∈ bs, BagAt K H' b) ⟨same_upd hD, [], upd_same, rfl, (fun b hb => by cases hb)⟩ ?_ ?_
    · rintro i H' hi ⟨sm, bs, hb, hl, hba⟩
      have i100 : i < 100 := by
        have e : ∀ m : Int, i < m.toNat → m ≤ 100 → i < 100 := fun m q1 q2 => by omega
        refine e _ hi ?_
        split <;> split <;> omega
      refine ⟨rfl, ?_⟩
      refine ⟨_, rfl, _, rfl, a, ns, _, rfl, sm.seq hs, by omega, fun b H1 s1 nb Ba => ⟨_, s1 _ _ hb, by rw [List.length_map]; exact small1000 (by omega), fun c o e => ?_, bs ++ [b], ?_, by rw [List.length_append, hl]; rfl, fun c hc => ?_⟩⟩
      · rw [upd_ne (ne_of_none e hD)]
        exact s1 _ _ (sm c o e)
      · rw [upd_same, List.map_append]
        rfl
      · have ev : Evo H1 (upd H1 D (.lst (bs.map V.ref ++ [V.ref b]))) → BagAt K (upd H1 D (.lst (bs.map V.ref ++ [V.ref b]))) c := fun ev => by
          rcases List.mem_append.mp hc with hc | hc
          · exact ((hba c hc).evo (Same.evo s1)).evo ev
          · have : c = b := by simpa using hc
            rw [this]; exact Ba.evo ev
        -- the new list is none that a bag stands on
        obtain ⟨l, i0, ms, g1, g2, g3, g4, g5⟩ : BagAt K H1 c := by
          rcases List.mem_append.mp hc with hc | hc
          · exact (hba c hc).evo (Same.evo s1)
          · have : c = b := by simpa using hc
            rw [this]; exact Ba
        have hb1 := s1 _ _ hb
        have ncD : c ≠ D := ne_of g1 hb1 (fun z => by
          have z' : [V.ref l, V.int i0] = bs.map V.ref := HO.lst.inj z
          exact refs_no l i0 z'.symm)
        refine ⟨l, i0, ms, by rw [upd_ne ncD]; exact g1, g2, ?_, g4, g5⟩
        rcases g3 with (g3 | ⟨o, g3⟩) | g3
        · have nlD : l ≠ D := fun z => by
            rw [z, hb1] at g3
            have z' : bs.map V.ref = ms.map V.int := HO.lst.inj (Option.some.inj g3)
            cases ms with
            | nil => simp at g4
            | cons _ _ =>
              cases bs with
              | nil => cases z'
              | cons _ _ => cases z'
          exact .inl (.inl (by rw [upd_ne nlD]; exact g3))
        · have nlD : l ≠ D := ne_of g3 hb1 (by intro z; cases z)
          exact .inl (.inr ⟨o, by rw [upd_ne nlD]; exact g3⟩)
        · exact .inr g3
    · rintro H' ⟨sm, bs, hb, hl, hba⟩
      exact q D bs H' sm hD hb hba
end
end Lp
namespace Lp
open PySem PySem.Spec PyProof.Rows L2
theorem evo_bag {H : Hp} {b l : Addr} {i j : Int} (h : H b = some (.lst [.ref l, .int i])) (hj : 0 ≤ j) : Evo H (upd H b (.lst [.ref l, .int j])) := fun a o e => by
  by_cases q : a = b
  · rw [q, h] at e
    cases e
    rw [q]
    exact .inr ⟨l, i, j, rfl, upd_same, fun _ => hj⟩
  · exact .inl (by rw [upd_ne q]; exact e)
section
variable {P : Program} {w : World} {K : PySem.W.Frag} {mg : Str → Option Value} {base : Heap}
def spTake (K : PySem.W.Frag) : Sp := fun vs H Q _ => ∃ (b : Addr) (m : Int), vs = [.ref b, .int m] ∧ BagAt K H b ∧ 0 < m ∧ ∀ (z : Int) (H' : Hp), Evo H H' → 0 ≤ z → z < m → Q (.int z) H'
theorem sc_law_take : FnScope ["bag", "many"] ["bag", "many"] (defScope s_law_take) := ⟨rfl, rfl, rfl, by decide +kernel, rfl, by decide +kernel, by decide +kernel⟩
theorem ok_take {f : Addr} {fd : FuncData} (F : L2.Fun K "_law_take" "_law_take" s_law_take f fd) (B : Bls mg) : FnOk P w K mg base L2.CX0 1 f fd ["bag", "many"] (spTake K) := by
  refine F.ok sc_law_take (fun vs H Q E h => ?_) (fun cdv A outer s H vs Q E hr h => ?_)
  · obtain ⟨b, m, rfl, _⟩ := h
    rfl
  · obtain ⟨b, m, rfl, ⟨l, i, ns, hb, i0, hs, hl, hns⟩, m0, q⟩ := h
    refine ⟨_, (pss_cons (ps_asg (pe_op op_add (pe_ix ix_list (pv 0) pe_int (fun _ _ => rfl)) pe_int) (pg_sub (pv 0) pe_int set_list))
      (pss_one (ps_ret (pe_op op_mod (pe_ix ix_list (pe_ix ix_list (pv 0) pe_int (fun _ _ => rfl)) (pe_op op_mod (pe_ix ix_list (pv 0) pe_int (fun _ _ => rfl)) (pe_len B (pe_ix ix_list (pv 0) pe_int (fun _ _ => rfl)))) (fun _ _ => rfl)) (pv 1))))), ?_⟩
    refine ⟨_, rfl, b, _, _, _, rfl, rfl, SqL.of hb, rfl, _, _, rfl, rfl, _, rfl, b, _, _, _, rfl, rfl, hb, rfl, ?_⟩
    have ev : Evo H (upd H b (.lst [.ref l, .int (i + 1)])) := evo_bag hb (by omega)
    have hb' : SqL K (upd H b (.lst [.ref l, .int (i + 1)])) b [.ref l, .int (i + 1)] := SqL.of upd_same
    have hs' := ev.ints hs
    have n0 := Int.emod_nonneg (i + 1) (show ((ns.map V.int).length : Int) ≠ 0 by rw [List.length_map]; omega)
    have n1 := Int.emod_lt_of_pos (i + 1) (show (0 : Int) < ((ns.map V.int).length : Int) by rw [List.length_map]; omega)
    have nk : ((i + 1) % ((ns.map V.int).length : Int)).toNat < ns.length := by rw [List.length_map] at n1 n0 ⊢; omega
    refine ⟨_, rfl, b, _, _, _, rfl, rfl, hb', rfl, _, rfl, b, _, _, _, rfl, rfl, hb', rfl, _, rfl, b, _, _, _, rfl, rfl, hb', rfl, l, _, rfl, .inl hs', _, _, rfl, rfl, by rw [List.length_map]; omega, ?_⟩
    refine ⟨l, _, _, _, rfl, rfl, hs', at_of (j := ((i + 1) % ((ns.map V.int).length : Int)).toNat) (by omega) (map_at (List.getElem?_eq_getElem nk)), _, rfl, _, _, rfl, rfl, m0, ?_⟩
    exact q _ _ ev (Int.emod_nonneg _ (by omega)) (Int.emod_lt_of_pos _ m0)
def spFar (K : PySem.W.Frag) : Sp := fun vs H Q _ => ∃ (b : Addr) (m : Int), vs = [.ref b, .int m] ∧ BagAt K H b ∧ 0 < m ∧ ∀ (z : Int) (H' : Hp), Evo H H' → 0 ≤ z → z < m → Q (.int z) H'
theorem sc_law_far_draw : FnScope ["bag", "many", "found", "much"] ["bag", "many"] (defScope s_law_far_draw) := ⟨rfl, rfl, rfl, by decide +kernel, rfl, by decide +kernel, by decide +kernel⟩
theorem ok_far {f : Addr} {fd : FuncData} (F : L2.Fun K "_law_far_draw" "_law_far_draw" s_law_far_draw f fd) (B : Bls mg) (c_law_take : Cal P w K mg base 1 "_law_take" (spTake K)) : FnOk P w K mg base L2.CX0 2 f fd ["bag", "many"] (spFar K) := by
  refine F.ok sc_law_far_draw (fun vs H Q E h => ?_) (fun cdv A outer s H vs Q E hr h => ?_)
  · obtain ⟨b, m, rfl, _⟩ := h
    rfl
  · obtain ⟨b, m, rfl, ba, m0, q⟩ := h
    refine ⟨_, (pss_cons (ps_par (i := 2) (j := 3) (by rfl) sc_law_far_draw.nd rfl rfl (by decide) rfl rfl (pa_cons pe_int (pa_cons (pv 1) pa_nil)) (by rfl))
      (pss_cons (ps_while PassesOwn.never (pt_cmpR op_gt (pv 3) pe_int (nomark _))
      (pss_one (ps_par (i := 2) (j := 3) (by rfl) sc_law_far_draw.nd rfl rfl (by decide) rfl rfl (pa_cons (pe_op op_add (pe_op op_mul pe_int (pv 2)) (pe_g c_law_take hr (pa_cons (pv 0) (pa_cons pe_int pa_nil)))) (pa_cons (pe_op op_fdiv (pv 3) pe_int) pa_nil)) (by rfl))))
      (pss_one (ps_ret (pe_ix ix_list (pe_lst (pa_cons (pe_op op_mod (pv 2) (pv 1)) (pa_cons pe_int (pa_cons (pe_op op_sub (pv 1) pe_int) (pa_cons (pe_op op_mod (pv 2) (pv 1)) pa_nil))))) (pe_g c_law_take hr (pa_cons (pv 0) (pa_cons pe_int pa_nil))) (fun _ _ => rfl)))))), ?_⟩
    refine ⟨_, rfl, _, _, rfl, ?_⟩
    refine ⟨fun k σ H' => ∃ found much : Int, σ = [some (.ref b), some (.int m), some (.int found), some (.int much)] ∧ Evo H H' ∧ k = much.toNat, ⟨_, 0, m, rfl, Evo.refl H, rfl⟩, ?_⟩
    rintro k σ H' ⟨found, much, rfl, ev, rfl⟩
    refine ⟨_, rfl, _, _, rfl, rfl, _, rfl, ?_⟩
    refine ite2 (fun c => ?_) (fun c => ?_)
    · have pos := of_decide_eq_true c
      refine ⟨fun σ' H'' => ∃ m', m' < much.toNat ∧ ∃ found much : Int, σ' = [some (.ref b), some (.int m), some (.int found), some (.int much)] ∧ Evo H H'' ∧ m' = much.toNat, fun _ _ h => h, ?_⟩
      refine ⟨_, rfl, _, _, rfl, rfl, .inl ⟨by decide, by decide⟩, _, rfl, b, _, rfl, ba.evo ev, by decide, fun z H2 e2 z0 z1 => ⟨_, _, rfl, rfl, _, rfl, _, _, rfl, rfl, ⟨by decide, by decide⟩, _, _, rfl, ?_⟩⟩
      refine ⟨(much / 1000).toNat, ?_, _, _, rfl, ev.trans e2, rfl⟩
      have : much / 1000 < much := by omega
      omega
    · have md : ∀ z : Int, 0 ≤ z % m ∧ z % m < m := fun z => ⟨Int.emod_nonneg _ (by omega), Int.emod_lt_of_pos _ m0⟩
      refine ⟨_, rfl, _, rfl, _, _, rfl, rfl, m0, _, rfl, _, _, rfl, rfl, _, rfl, _, rfl, _, _, rfl, rfl, m0, by show 4 ≤ sizeLine; decide, fun p hp => ?_⟩
      have s1 : Same H' (upd H' p (.lst [.int (found % m), .int 0, .int (m - 1), .int (found % m)])) := same_upd hp
      refine ⟨_, rfl, b, _, rfl, (ba.evo ev).evo (Same.evo s1), by decide, fun z H2 e2 z0 z1 => ?_⟩
      have hl : H2 p = some (.lst ([found % m, 0, m - 1, found % m].map V.int)) := e2.intsH (ns := [found % m, 0, m - 1, found % m]) upd_same
      have e3 : Evo H H2 := (ev.trans (Same.evo s1)).trans e2
      have zk : z.toNat < [found % m, 0, m - 1, found % m].length := by show z.toNat < 4; omega
      refine ⟨p, _, _, _, rfl, rfl, SqL.of hl, at_of (j := z.toNat) (by omega) (map_at (List.getElem?_eq_getElem zk)), ?_⟩
      have bd : ∀ y ∈ [found % m, 0, m - 1, found % m], 0 ≤ y ∧ y < m := fun y hy => by
        have := md found
        simp only [List.mem_cons, List.not_mem_nil, or_false] at hy
        omega
      have := bd _ (List.getElem_mem zk)
      exact q _ _ e3 this.1 this.2
end
end Lp
namespace Lp
open PySem PySem.Spec PyProof.Rows L2
/-- what is drawn below a bound -/
def Lim (far : Int) (t : List Guest) : Prop := ∀ g ∈ t, 0 ≤ g.1 ∧ (g.1 < far ∨ g.1 < 4) ∧ ∀ m, g.2 = some m → 0 ≤ m ∧ (m < far ∨ m < 6)
theorem evo_kept {H H1 : Hp} {l : Addr} {o : HO} (e : Evo H H1) (hl : H l = none) : Evo H (upd H1 l o) := fun a u h => by
  have : a ≠ l := ne_of_none h hl
  rw [upd_ne this]
  exact e a u h
theorem Lim.ok {far : Int} {t : List Guest} (h : Lim far t) (hf : far ≤ 1000000000000000001) (h1 : 1 ≤ t.length) (h8 : t.length ≤ 8) : TabOk t := ⟨h1, h8, fun g hg => by
  obtain ⟨a, b, c⟩ := h g hg
  refine ⟨a, by omega, fun m hm => ?_⟩
  obtain ⟨d, e⟩ := c m hm
  exact ⟨d, by omega⟩⟩
section
variable {P : Program} {w : World} {K : PySem.W.Frag} {mg : Str → Option Value} {base : Heap}
def spLawTable (K : PySem.W.Frag) : Sp := fun vs H Q _ => ∃ (b : Addr) (seats far : Int), vs = [.ref b, .int seats, .int far] ∧ BagAt K H b ∧ 0 < seats ∧ seats ≤ 8 ∧ 0 < far ∧
  ∀ (a : Addr) (t : List Guest) (H' : Hp), Evo H H' → TableAt K H' a t → 1 ≤ t.length → (t.length : Int) ≤ seats → Lim far t → Q (.ref a) H'
theorem sc_law_table : FnScope ["bag", "seats", "far", "found", "same", "turn", "courtesy", "enough"] ["bag", "seats", "far"] (defScope s_law_table) := ⟨rfl, rfl, rfl, by decide +kernel, rfl, by decide +kernel, by decide +kernel⟩
theorem ok_ltable {f : Addr} {fd : FuncData} (F : L2.Fun K "_law_table" "_law_table" s_law_table f fd) (B : Bls mg) (c_law_take : Cal P w K mg base 1 "_law_take" (spTake K)) (c_law_far_draw : Cal P w K mg base 2 "_law_far_draw" (spFar K)) : FnOk P w K mg base L2.CX0 3 f fd ["bag", "seats", "far"] (spLawTable K) := by
  refine F.ok sc_law_table (fun vs H Q E h => ?_) (fun cdv A outer s H vs Q E hr h => ?_)
  · obtain ⟨b, seats, far, rfl, _⟩ := h
    rfl
  · obtain ⟨b, seats, far, rfl, ba, p0, p8, pf, q⟩ := h
    refine ⟨_, (pss_cons (ps_par (i := 3) (j := 4) (by rfl) sc_law_table.nd rfl rfl (by decide) rfl rfl (pa_cons (pe_lst pa_nil) (pa_cons (pe_g c_law_far_draw hr (pa_cons (pv 0) (pa_cons (pv 2) pa_nil))) pa_nil)) (by rfl))
      (pss_cons (ps_for PassesOwn.never rfl (pi_range1 (by rfl) B.range (pa_cons (pe_op op_add pe_int (pe_g c_law_take hr (pa_cons (pv 0) (pa_cons (pv 1) pa_nil)))) pa_nil)) (pg_name (i := 5) sc_law_table.nd rfl (Or.inl rfl))
      (pss_cons (ps_set (i := 6) sc_law_table.nd rfl (Or.inl rfl) (pe_ix ix_list (pe_lst (pa_cons pe_int (pa_cons (pe_g c_law_take hr (pa_cons (pv 0) (pa_cons pe_int pa_nil))) (pa_cons (pe_g c_law_far_draw hr (pa_cons (pv 0) (pa_cons (pv 2) pa_nil))) (pa_cons (pv 4) pa_nil))))) (pe_g c_law_take hr (pa_cons (pv 0) (pa_cons pe_int pa_nil))) (fun _ _ => rfl)))
      (pss_cons (ps_set (i := 7) sc_law_table.nd rfl (Or.inl rfl) (pe_ix ix_list (pe_lst (pa_cons pe_non (pa_cons pe_non (pa_cons (pe_g c_law_far_draw hr (pa_cons (pv 0) (pa_cons (pv 2) pa_nil))) (pa_cons (pe_g c_law_take hr (pa_cons (pv 0) (pa_cons pe_int pa_nil))) pa_nil))))) (pe_g c_law_take hr (pa_cons (pv 0) (pa_cons pe_int pa_nil))) (fun _ _ => rfl)))
      (pss_one (ps_expr (pe_bm PySem.F.plainAttrs_list PySem.F.slot_list_append PySem.F.type_list_append mt_append (pv 3) (pa_cons (pe_tup (pa_cons (pv 6) (pa_cons (pv 7) pa_nil))) pa_nil)))))))
      (pss_one (ps_ret (pe_callTy call_tuple_of (by rfl) B.tuple (by decide +kernel) (pa_cons (pv 3) pa_nil)))))), ?_⟩
    -- found, same
    refine ⟨Nat.zero_le _, fun l hl => ?_⟩
    have e0 : Evo H (upd H l (.lst [])) := evo_kept (Evo.refl H) hl
    refine ⟨_, rfl, _, rfl, b, far, rfl, ba.evo e0, pf, fun same H1 e1 s0 s1 => ⟨_, _, rfl, ?_⟩⟩
    have hl1 : H1 l = some (.lst (([] : List Addr).map V.ref)) := e1.refsH (ps := []) upd_same
    -- for turn in range(1 + ..)
    refine ⟨_, rfl, _, rfl, b, seats, rfl, ba.evo (e0.trans e1), p0, fun n H2 e2 n0 n1 => ⟨_, _, rfl, rfl, _, rfl, by omega, by omega, ?_⟩⟩
    refine for_range (lo := 0) (n := (1 + n).toNat) (fun i σ H' => ∃ (ps : List Addr) (t : List Guest) (v5 v6 v7 : Option V), σ = [some (.ref b), some (.int seats), some (.int far), some (.ref l), some (.int same), v5, v6, v7] ∧ Evo H H' ∧
      H' l = some (.lst (ps.map V.ref)) ∧ ps.length = t.length ∧ (∀ (i : Nat) (g : Guest) (p : Addr), t[i]? = some g → ps[i]? = some p → H' p = some (.tup [.int g.1, optV g.2])) ∧ t.length = i ∧ Lim far t)
      ⟨[], [], none, none, none, rfl, (e0.trans e1).trans e2, e2.refsH hl1, rfl, (fun i g p h => by cases h), rfl, (fun g h => by cases h)⟩ ?_ ?_
    · rintro i σ H3 hi ⟨ps, t, v5, v6, v7, rfl, e3, hl3, hpt, hg, ht, lim⟩
      -- courtesy
      refine ⟨_, rfl, b, 4, rfl, ba.evo e3, by decide, fun c1 H4 e4 c10 c11 => ?_⟩
      have e34 := e3.trans e4
      refine ⟨_, rfl, _, rfl, b, far, rfl, ba.evo e34, pf, fun c2 H5 e5 c20 c21 => ?_⟩
      have e35 := e34.trans e5
      refine ⟨_, rfl, by show 4 ≤ sizeLine; decide, fun x hx => ?_⟩
      have sx : Same H5 (upd H5 x (.lst [.int 0, .int c1, .int c2, .int same])) := same_upd hx
      have e36 := e35.trans (Same.evo sx)
      refine ⟨_, rfl, b, 4, rfl, ba.evo e36, by decide, fun z H6 e6 z0 z1 => ?_⟩
      have hx6 : H6 x = some (.lst ([0, c1, c2, same].map V.int)) := e6.intsH (ns := [0, c1, c2, same]) upd_same
      have zk : z.toNat < [0, c1, c2, same].length := by show z.toNat < 4; omega
      refine ⟨x, _, _, _, rfl, rfl, SqL.of hx6, at_of (j := z.toNat) (by omega) (map_at (List.getElem?_eq_getElem zk)), ?_⟩
      have cb : ∀ y ∈ [0, c1, c2, same], 0 ≤ y ∧ (y < far ∨ y < 4) := fun y hy => by
        simp only [List.mem_cons, List.not_mem_nil, or_false] at hy
        omega
      have cy := cb _ (List.getElem_mem zk)
      generalize [0, c1, c2, same][z.toNat] = cc at cy
      have e37 := e36.trans e6
      have hl6 : H6 l = some (.lst (ps.map V.ref)) := e6.refsH ((Same.evo sx).refsH (e5.refsH (e4.refsH hl3)))
      have t6 : ∀ (p : Addr) (xs : List V), H3 p = some (.tup xs) → H6 p = some (.tup xs) := fun p xs h => e6.tupH ((Same.evo sx).tupH (e5.tupH (e4.tupH h)))
      -- enough
      refine ⟨_, rfl, _, rfl, b, far, rfl, ba.evo e37, pf, fun c3 H7 e7 c30 c31 => ?_⟩
      have e38 := e37.trans e7
      refine ⟨_, rfl, b, 6, rfl, ba.evo e38, by decide, fun c4 H8 e8 c40 c41 => ?_⟩
      have e39 := e38.trans e8
      refine ⟨by show 4 ≤ sizeLine; decide, fun y hy => ?_⟩
      have sy : Same H8 (upd H8 y (.lst [.non, .non, .int c3, .int c4])) := same_upd hy
      have e40 := e39.trans (Same.evo sy)
      refine ⟨_, rfl, b, 4, rfl, ba.evo e40, by decide, fun u H9 e9 u0 u1 => ?_⟩
      have hy9 : H9 y = some (.lst ([none, none, some c3, some c4].map optV)) := e9.keep upd_same fun _ _ z => by have := HO.lst.inj z; cases this
      have uk : u.toNat < [none, none, some c3, some c4].length := by show u.toNat < 4; omega
      refine ⟨y, _, _, _, rfl, rfl, SqL.of hy9, at_of (j := u.toNat) (by omega) (map_at (List.getElem?_eq_getElem uk)), ?_⟩
      have eb : ∀ o ∈ [none, none, some c3, some c4], ∀ m, o = some m → 0 ≤ m ∧ (m < far ∨ m < 6) := fun o ho m hm => by
        simp only [List.mem_cons, List.not_mem_nil, or_false] at ho
        rcases ho with h | h | h | h <;> rw [h] at hm <;> cases hm <;> omega
      have ey := eb _ (List.getElem_mem uk)
      generalize [none, none, some c3, some c4][u.toNat] = ee at ey
      have e41 := e40.trans e9
      have hl9 : H9 l = some (.lst (ps.map V.ref)) := e9.refsH ((Same.evo sy).refsH (e8.refsH (e7.refsH hl6)))
      have t9 : ∀ (p : Addr) (xs : List V), H3 p = some (.tup xs) → H9 p = some (.tup xs) := fun p xs h => e9.tupH ((Same.evo sy).tupH (e8.tupH (e7.tupH (t6 p xs h))))
      -- found.append((courtesy, enough))
      refine ⟨_, rfl, .inl ⟨rfl, _, SqL.of hl9⟩, _, rfl, _, rfl, by show 2 ≤ sizeLine; decide, fun r hrr => ?_⟩
      have sr : Same H9 (upd H9 r (.tup [.int cc, optV ee])) := same_upd hrr
      have hl10 := sr _ _ hl9
      refine ⟨l, _, _, rfl, rfl, hl10, by rw [List.length_map]; exact small1000 (by omega), ?_⟩
      refine ⟨ps ++ [r], t ++ [(cc, ee)], _, _, _, rfl, evo_kept (e41.trans (Same.evo sr)) hl, ?_, by rw [List.length_append, List.length_append, hpt]; rfl, fun j g p h1 h2 => ?_, by rw [List.length_append, ht]; rfl, fun g hgm => ?_⟩
      · rw [upd_same, List.map_append]
        rfl
      · have lt : ∀ p' : Addr, (upd H9 r (.tup [.int cc, optV ee])) p' = some (.tup [.int g.1, optV g.2]) → (upd (upd H9 r (.tup [.int cc, optV ee])) l (.lst (ps.map V.ref ++ [.ref r]))) p' = some (.tup [.int g.1, optV g.2]) := fun p' h => by
          rw [upd_ne (ne_of h hl10 (by intro z; cases z))]
          exact h
        refine lt p ?_
        by_cases hj : j < t.length
        · rw [List.getElem?_append_left hj] at h1
          rw [List.getElem?_append_left (by omega)] at h2
          exact sr _ _ (t9 _ _ (hg j g p h1 h2))
        · have ej : j = t.length := by
            have := (List.getElem?_eq_some_iff.mp h1).1
            rw [List.length_append, List.length_singleton] at this
            omega
          rw [List.getElem?_append_right (by omega), ej, Nat.sub_self] at h1
          rw [List.getElem?_append_right (by omega), ej, hpt, Nat.sub_self] at h2
          cases h1
          cases h2
          exact upd_same
      · rcases List.mem_append.mp hgm with h | h
        · exact lim g h
        · have : g = (cc, ee) := by simpa using h
          rw [this]
          exact ⟨cy.1, cy.2, ey⟩
    · rintro σ H3 ⟨ps, t, v5, v6, v7, rfl, e3, hl3, hpt, hg, ht, lim⟩
      refine ⟨_, rfl, l, _, rfl, .inl ⟨SqL.of hl3, fun r hrr => ?_⟩⟩
      have sr : Same H3 (upd H3 r (.tup (ps.map V.ref))) := same_upd hrr
      exact q r t _ (e3.trans (Same.evo sr)) (.mk (ps := ps) (SqT.of upd_same) hpt fun i g p h1 h2 => SqT.of (sr _ _ (hg i g p h1 h2))) (by omega) (by omega) lim
end
end Lp
namespace Lp
open PySem PySem.Spec PyProof.Rows L2
def spLaw (K : PySem.W.Frag) : Sp := fun vs H Q _ => ∃ (a : Addr) (ns : List Int), vs = [.ref a] ∧ SqL K H a (ns.map V.int) ∧ ns.length ≤ 63 ∧ ∀ H', Q (.bl true) H'
/-- a constant as the last argument -/
theorem arg1 {σ : L2.St} {H : Hp} {v : V} {k : List V → Hp → Prop} (h : k [v] H) : tCons (tC v) tNil σ H k := h
theorem for_range0 {n : Nat} {g : TG} {tb : TS} {D : Ends} {σ : L2.St} {H : Hp} (Pv : Nat → L2.St → Hp → Prop) (h0 : Pv 0 σ H)
    (hs : ∀ i σ H, i < n → Pv i σ H → g (.int (i : Int)) σ H fun σ2 H2 => tb { D with nx := Pv (i + 1), ct := Pv (i + 1), bk := D.nx } σ2 H2) (hd : ∀ σ H, Pv n σ H → D.nx σ H) :
    ∃ W : Nat → Nat → L2.St → Hp → Prop, (∃ m, W 0 m σ H) ∧ ∀ i m σ H, W i m σ H →
      ((Itr 0 n).stop i H ∧ D.nx σ H) ∨ ((Itr 0 n).go i H ∧ ∃ N : L2.St → Hp → Prop, (∀ σ' H', N σ' H' → ∃ m', m' < m ∧ W (i + 1) m' σ' H') ∧ ∀ x H', (Itr 0 n).yld i H x H' → g x σ H' fun σ2 H2 => tb { D with nx := N, ct := N, bk := D.nx } σ2 H2) :=
  for_range (lo := 0) Pv h0 (fun i σ H hi p => by rw [Int.zero_add]; exact hs i σ H hi p) hd
theorem finL_len (t : List Guest) (f : Nat) (d : Int) : (finL t f d).length = t.length := D.hadL_len _ _
theorem finL_get {t : List Guest} {f : Nat} {d : Int} {i : Nat} (hi : i < t.length) : (finL t f d)[i]? = some ((Fin t f d).had i) := D.hadL_get _ hi
theorem gs_at {t : List Guest} {i : Nat} {g : Guest} (h : t[i]? = some g) : D.gs t i = g := by
  show t.getD i (0, none) = g
  rw [List.getD_eq_getElem?_getD, h]
  rfl
theorem fin_sum {t : List Guest} (ok : TabOk t) (f : Nat) (d : Int) : (finL t f d).sum + (Fin t f d).left = d := by
  have := D.run_sum (g := D.gs t) (f := f) (d := d) ok.1 (D.enoughVisits t.length d)
  have e : (finL t f d).sum = D.total t.length (Fin t f d).had := D.total_hadL _ _
  rw [e]
  exact this
theorem fin_le {t : List Guest} (ok : TabOk t) (f : Nat) {d : Int} (hd : 0 ≤ d) : 0 ≤ (Fin t f d).left ∧ (Fin t f d).left ≤ d :=
  ⟨D.left_nonneg ok.1 (fun i hi => guest_pos ok i hi) hd _, D.left_le _⟩
theorem nx_mk {nx ct bk : L2.St → Hp → Prop} {rt : VK} {σ : L2.St} {H : Hp} (h : nx σ H) : Ends.nx { nx := nx, ct := ct, bk := bk, rt := rt } σ H := h
theorem c_mk {v : V} {σ : L2.St} {H : Hp} {Q : VK} (h : Q v H) : tC v σ H Q := h
theorem no_ne {x : V} {Q : Bool → Hp → Prop} {H : Hp} (h : Q false H) : Q (!decide (x = x)) H := by
  rw [decide_eq_true rfl]
  exact h
theorem next_mk {nx ct bk : L2.St → Hp → Prop} {rt : VK} {σ : L2.St} {H : Hp} (h : nx σ H) : tNext { nx := nx, ct := ct, bk := bk, rt := rt } σ H := h
/-- «if T: ..» where T is false, whatever stands behind it -/
theorem guardS {T : TT} {A B C : TS} {D : Ends} {σ : L2.St} {H : Hp} (hx : ∀ Q' : Bool → Hp → Prop, (∀ H', Same H H' → Q' false H') → T σ H Q') (hq : ∀ H', Same H H' → B { D with nx := C D } σ H') : tSeq (tIfS T A B) C D σ H :=
  hx _ fun H' s => iteF (hq H' s)
theorem guardE {T : TT} {A B : TS} {D : Ends} {σ : L2.St} {H : Hp} (hx : ∀ Q' : Bool → Hp → Prop, (∀ H', Same H H' → Q' false H') → T σ H Q') (hq : ∀ H', Same H H' → B D σ H') : tIfS T A B D σ H :=
  hx _ fun H' s => iteF (hq H' s)
section
variable {K : PySem.W.Frag} {H : Hp}
theorem ne_same {a b : Addr} {ns : List Int} {Q : VK} (h1 : SqL K H a (ns.map V.int)) (h2 : SqL K H b (ns.map V.int)) (q : Q (.bl false) H) : rNeD K (.ref a) (.ref b) H Q :=
  ne_ints h1 h2 (by rw [decide_eq_true rfl]; exact q)
theorem eq_same {a b : Addr} {ns : List Int} {Q : VK} (h1 : SqL K H a (ns.map V.int)) (h2 : SqL K H b (ns.map V.int)) (q : Q (.bl true) H) : rEqD K (.ref a) (.ref b) H Q :=
  eq_ints h1 h2 (by rw [decide_eq_true rfl]; exact q)
/-- a list of ints is a list -/
theorem isi_ints {a : Addr} {ns : List Int} {Q : VK} (h : SqL K H a (ns.map V.int)) (q : Q (.bl true) H) : rIsi K [.ref a, .ty "list"] H Q :=
  ⟨_, _, _, _, _, rfl, .ty _, tyx (dp_ints h), kit_l _ _, q⟩
/-- x != x -/
theorem if_ne {x : V} {A B : Prop} (h : B) : if (!decide (x = x)) = true then A else B := by
  rw [decide_eq_true rfl]
  exact iteF h
end
end Lp
namespace Lp
open PySem PySem.Spec PyProof.Rows L2
section
variable {P : Program} {w : World} {K : PySem.W.Frag} {mg : Str → Option Value} {base : Heap} {C : Addr}
/-! ### gains -/
/-- who has one piece more of d + 1 -/
def GainsAt (t : List Guest) (f : Nat) (d : Int) (v : V) : Prop :=
  (v = .non ∧ (Fin t f (d + 1)).had = (Fin t f d).had ∧ (Fin t f (d + 1)).left = (Fin t f d).left + 1) ∨
  ∃ i : Nat, i < t.length ∧ v = .int (i : Int) ∧ (Fin t f (d + 1)).had = D.bump (Fin t f d).had i ∧ (Fin t f (d + 1)).left = (Fin t f d).left
def spGains (K : PySem.W.Frag) : Sp := fun vs H Q _ => ∃ (a : Addr) (t : List Guest) (f : Nat) (d : Int), vs = [.ref a, .int d, .int (f : Int)] ∧ TableAt K H a t ∧ TabOk t ∧ f < t.length ∧ 0 ≤ d ∧ d ≤ 1000000000000000000 ∧
  ∀ (v : V) (H' : Hp), Same H H' → GainsAt t f d v → Q v H'
theorem if_ne2 {x y : V} {A B : Prop} (h : x ≠ y) (q : A) : if (!decide (x = y)) = true then A else B := by
  rw [decide_eq_false h]
  exact iteT q
theorem sc_gains : FnScope ["table", "dish", "first", "now", "then", "seat"] ["table", "dish", "first"] (defScope s_gains) := ⟨rfl, rfl, rfl, by decide +kernel, rfl, by decide +kernel, by decide +kernel⟩
theorem ok_gains {f : Addr} {fd : FuncData} (F : FunD K "gains" "gains" (defArgs s_gains) (defBody s_gains) (defScope s_gains) [] [("first", .int 0)] f fd) (B : Bls mg) (c_need_asked : Cal P w K mg base 5 "need_asked" (spNeedAsked K)) (c_need_seat : Cal P w K mg base 2 "need_seat" (spNeedSeat K)) (c_rested : Cal P w K mg base 4 "rested" (spRested K)) :
    FnOk P w K mg base L2.CX0 6 f fd ["table", "dish", "first"] (spGains K) := by
  refine F.ok sc_gains (fun vs H Q E h => ?_) (fun cdv A outer s H vs Q E hr h => ?_)
  · obtain ⟨a, t, f, d, rfl, _⟩ := h
    rfl
  · obtain ⟨a, t, fs, d, rfl, tb, ok, hf, hd, hd1, k⟩ := h
    have hn : 0 < t.length := ok.1
    refine ⟨_, PSs.nox (pss_cons (ps_expr (pe_g c_need_asked hr (pa_cons (pv 0) (pa_cons (pv 1) pa_nil))))
      (pss_cons (ps_expr (pe_g c_need_seat hr (pa_cons (pv 0) (pa_cons (pv 2) pa_nil))))
      (pss_cons (ps_par (i := 3) (j := 4) (by rfl) sc_gains.nd rfl rfl (by decide) rfl rfl (pa_cons (pe_ix ix_tup (pe_g c_rested hr (pa_cons (pv 0) (pa_cons (pv 1) (pa_cons (pv 2) pa_nil)))) pe_int (fun _ _ => rfl)) (pa_cons (pe_ix ix_tup (pe_g c_rested hr (pa_cons (pv 0) (pa_cons (pe_op op_add (pv 1) pe_int) (pa_cons (pv 2) pa_nil)))) pe_int (fun _ _ => rfl)) pa_nil)) (by rfl))
      (pss_cons (ps_for PassesOwn.never rfl (pi_range1 (by rfl) B.range (pa_cons (pe_len B (pv 0)) pa_nil)) (pg_name (i := 5) sc_gains.nd rfl (Or.inl rfl))
      (pss_one (ps_if (pt_cmpR op_ne (pe_ix ix_list (pv 3) (pv 5) (fun _ _ => rfl)) (pe_ix ix_list (pv 4) (pv 5) (fun _ _ => rfl)) (nomark _))
      (pss_one (ps_ret (pv 5)))
      pss_nil)))
      (pss_one (ps_ret pe_non)))))), ?_⟩
    refine ⟨_, rfl, _, rfl, a, t, d, rfl, tb, ok, hd, hd1, fun H1 s1 => ?_⟩
    obtain ⟨xs, hx, hl, _⟩ := (tb.same s1).open
    refine ⟨_, rfl, _, rfl, a, xs, fs, rfl, hx, by rw [hl]; exact hf, ?_⟩
    refine ⟨_, rfl, _, rfl, _, rfl, a, t, fs, d, rfl, tb.same s1, ok, hf, hd, fun q l H2 s2 nl hq hl2 => ?_⟩
    refine ⟨q, _, _, _, rfl, rfl, SqT.of hq, rfl, ?_⟩
    have s12 := Same.trans s1 s2
    refine ⟨_, rfl, _, rfl, _, _, rfl, rfl, _, rfl, a, t, fs, d + 1, rfl, tb.same s12, ok, hf, by omega, fun q' l' H3 s3 nl' hq' hl3 => ?_⟩
    refine ⟨q', _, _, _, rfl, rfl, SqT.of hq', rfl, ?_⟩
    have s13 := Same.trans s12 s3
    have hl2' := s3 _ _ hl2
    have n8 : t.length ≤ 8 := ok.2.1
    refine ⟨_, _, rfl, _, rfl, a, xs, rfl, .inr (Same.sqt (Same.trans s2 s3) hx), _, rfl, by omega, by omega, ?_⟩
    have bs := D.fin_beside (g := D.gs t) (n := t.length) (f := fs) (d := d) hn (fun i hi => guest_pos ok i hi) hd
    have xl : ((xs.length : Nat) : Int).toNat = t.length := by rw [Int.toNat_natCast]; exact hl
    refine for_range0 (fun j σ H' => ∃ (v5 : Option V), σ = [some (.ref a), some (.int d), some (.int (fs : Int)), some (.ref l), some (.ref l'), v5] ∧ H' = H3 ∧ ∀ i, i < j → (Fin t fs d).had i = (Fin t fs (d + 1)).had i) ⟨_, rfl, rfl, fun i h => absurd h (Nat.not_lt_zero _)⟩ ?_ ?_
    · rintro j σ H' hj ⟨v5, rfl, rfl, same⟩
      have jn : j < t.length := by rw [xl] at hj; exact hj
      refine ⟨_, rfl, _, rfl, l, _, _, _, rfl, rfl, SqL.of hl2', atI_nat (map_at (finL_get jn)), _, rfl, _, rfl, l', _, _, _, rfl, rfl, SqL.of hl3, atI_nat (map_at (finL_get jn)), rfl, _, rfl, ?_⟩
      by_cases e : (Fin t fs d).had j = (Fin t fs (d + 1)).had j
      · rw [e]
        refine if_ne ⟨_, rfl, rfl, fun i hi => ?_⟩
        by_cases z : i = j
        · rw [z]; exact e
        · exact same i (by omega)
      · refine if_ne2 (fun z => e (V.int.inj z)) ⟨_, rfl, k _ _ s13 ?_⟩
        rcases bs with ⟨h1, h2⟩ | ⟨i, hi, h1, h2, h3⟩
        · exact absurd (congrFun h2 j).symm e
        · have ij : j = i := by
            apply Classical.byContradiction
            intro z
            refine e ?_
            have := congrFun h2 j
            rw [D.bump_ne _ z] at this
            exact this.symm
          exact .inr ⟨j, jn, rfl, by rw [ij]; exact h2, h1⟩
    · rintro σ H' ⟨v5, rfl, rfl, same⟩
      refine k _ _ s13 ?_
      rcases bs with ⟨h1, h2⟩ | ⟨i, hi, h1, h2, h3⟩
      · exact .inl ⟨rfl, h2, h1⟩
      · have := same i (by rw [xl]; exact hi)
        have z := congrFun h2 i
        rw [D.bump_self] at z
        have z' : (Fin t fs (d + 1)).had i = (Fin t fs d).had i + 1 := z
        omega
end
end Lp
namespace D
section
variable {g : Gs} {n f : Nat} {d : Int}
/-- who may take so many has them by a dish so great -/
theorem reach_run {C : Int} (hn : 0 < n) {i : Nat} (hi : i < n) (hC : (g i).1 ≤ C) {m : Nat} (he : ∀ e, (g i).2 = some e → (m : Int) ≤ e) (hd : C + (n : Int) * m ≤ d) (r : Nat) (hr : r ≤ m) : (r : Int) ≤ (run g n f d (r * n)).had i := by
  induction r with
  | zero => exact had_nonneg _ _
  | succ r ih =>
    have ih := ih (by omega)
    obtain ⟨j, hj, ej⟩ := met (f := f) hn (r * n) i hi
    have le := run_left_ge (g := g) (n := n) (f := f) (d := d) 0 (r * n + j)
    rw [Nat.zero_add] at le
    have l0 : (run g n f d 0).left = d := rfl
    rw [l0] at le
    have mul : (r + 1) * n ≤ m * n := Nat.mul_le_mul_right n hr
    rw [Nat.succ_mul] at mul
    have cast : (n : Int) * m = ((m * n : Nat) : Int) := by rw [Int.natCast_mul, Int.mul_comm]
    have h1 := run_had_le (g := g) (n := n) (f := f) (d := d) (r * n) j i
    have key : ((r + 1 : Nat) : Int) ≤ (run g n f d (r * n + j + 1)).had i := by
      rw [run_succ, show (f + (r * n + j)) % n = i from ej]
      by_cases w : wants g (run g n f d (r * n + j)) i
      · rw [vis_yes w]
        show _ ≤ bump _ i i
        rw [bump_self]
        omega
      · rw [vis_no w]
        refine Int.not_lt.mp fun lt => w ⟨by omega, fun e q => ?_⟩
        have := he e q
        omega
    have h2 := run_had_le (g := g) (n := n) (f := f) (d := d) (r * n + j + 1) (n - (j + 1)) i
    rw [show r * n + j + 1 + (n - (j + 1)) = (r + 1) * n by rw [Nat.succ_mul]; omega] at h2
    omega
theorem reach {C : Int} (hn : 0 < n) (hc : ∀ i, i < n → 0 ≤ (g i).1) {i : Nat} (hi : i < n) (hC : (g i).1 ≤ C) {m : Int} (h0 : 0 ≤ m) (he : ∀ e, (g i).2 = some e → m ≤ e) (hd : C + (n : Int) * m ≤ d) : m ≤ (fin g n f d).had i := by
  obtain ⟨k, rfl⟩ : ∃ k : Nat, m = (k : Int) := ⟨m.toNat, by omega⟩
  have d0 : 0 ≤ d := by
    have h1 : (0 : Int) ≤ (n : Int) * k := Int.mul_nonneg (by omega) (by omega)
    have := hc i hi
    omega
  have h1 := reach_run (f := f) hn hi hC he hd k (Nat.le_refl _)
  have h2 := run_had_le (g := g) (n := n) (f := f) (d := d) (k * n) (enoughVisits n d) i
  rw [fin_eq hn hc d0 (show enoughVisits n d ≤ k * n + enoughVisits n d by omega)] at h2
  omega
/-- a greater dish brings no less -/
theorem fin_mono' (hn : 0 < n) (hc : ∀ i, i < n → 0 ≤ (g i).1) (hd : 0 ≤ d) {d' : Int} (h : d ≤ d') (i : Nat) : (fin g n f d).had i ≤ (fin g n f d').had i := by
  have := fin_mono (f := f) hn hc hd (d' - d).toNat i
  rwa [show d + ((d' - d).toNat : Int) = d' by omega] at this
end
end D
namespace D
theorem had_left_le {g : Gs} {n f : Nat} {d : Int} (k i : Nat) : (run g n f d k).had i + (run g n f d k).left ≤ d := by
  induction k with
  | zero => show (0 : Int) + d ≤ d; omega
  | succ k ih =>
    rw [run_succ]
    unfold vis bump
    split
    · simp only
      split <;> omega
    · exact ih
end D
namespace Lp
open PySem PySem.Spec PyProof.Rows L2
theorem fin_had_le {t : List Guest} (ok : TabOk t) (f : Nat) {d : Int} (hd : 0 ≤ d) (i : Nat) : 0 ≤ (Fin t f d).had i ∧ (Fin t f d).had i ≤ d := by
  have h1 := D.had_nonneg (g := D.gs t) (n := t.length) (f := f) (d := d) (D.enoughVisits t.length d) i
  have h2 := D.had_left_le (g := D.gs t) (n := t.length) (f := f) (d := d) (D.enoughVisits t.length d) i
  have h3 := (fin_le ok f hd).1
  have h4 : (Fin t f d).left = (D.run (D.gs t) t.length f d (D.enoughVisits t.length d)).left := rfl
  exact ⟨h1, by show (D.run (D.gs t) t.length f d (D.enoughVisits t.length d)).had i ≤ d; omega⟩
theorem had_at {t : List Guest} {f : Nat} {d : Int} {ns : List Int} (e : finL t f d = ns) {i : Nat} {m : Int} (h : ns[i]? = some m) : i < t.length ∧ (Fin t f d).had i = m := by
  have il : i < t.length := by
    have := (List.getElem?_eq_some_iff.mp h).1
    rw [← e, finL_len] at this
    exact this
  rw [← e, finL_get il] at h
  exact ⟨il, Option.some.inj h⟩
end Lp
namespace Lp
open PySem PySem.Spec PyProof.Rows L2 LamX NdefX
/-- the least dish by which a guest has m pieces, or None -/
def LeastAt (t : List Guest) (f i : Nat) (m : Int) (v : V) : Prop :=
  (v = .non ∧ ∃ e, (D.gs t i).2 = some e ∧ e < m) ∨
  ∃ r : Int, v = .int r ∧ 0 ≤ r ∧ (∀ e, (D.gs t i).2 = some e → m ≤ e) ∧ m ≤ (Fin t f r).had i ∧ ∀ d, 0 ≤ d → d < r → (Fin t f d).had i < m
def lwName : Nat → Nat → Str := fun _ _ => "least_with.<locals>.<lambda>"
def spLW (K : PySem.W.Frag) (T : List NTab) : Sp := fun vs H Q _ => ∃ (a : Addr) (t : List Guest) (f i : Nat) (m : Int), vs = [.ref a, .int (i : Int), .int m, .int (f : Int)] ∧ TableAt K H a t ∧ TabOk t ∧ i < t.length ∧ f < t.length ∧ 0 ≤ m ∧ TabsN T H ∧
  ∀ (v : V) (H' : Hp), EvN H H' → TabsN T H' → LeastAt t f i m v → Q v H'
abbrev lw_lam : Expr := lastArg (retOf ((defBody s_least_with).getLastD (.Pass ⟨0, 0, 0, 0⟩)))
def lwF (qual : Str) (cl : List (Str × Addr)) (c : Addr) : NF := ⟨"<lambda>", qual, lamA lw_lam, [], lamS lw_lam, cl, c⟩
def spLam (K : PySem.W.Frag) (ws : List (Option V)) : Sp := fun vs H Q _ => ∃ (a : Addr) (t : List Guest) (f i : Nat) (m d : Int), ws = [some (.ref a), some (.int (i : Int)), some (.int m), some (.int (f : Int))] ∧ vs = [.int d] ∧ TableAt K H a t ∧ TabOk t ∧ i < t.length ∧ f < t.length ∧ 0 ≤ d ∧
  ∀ H', Same H H' → Q (.bl (decide (m ≤ (Fin t f d).had i))) H'
section
variable {P : Program} {w : World} {K : PySem.W.Frag} {mg : Str → Option Value} {base : Heap}
theorem lw_scope : NScope ["dish", "table", "seat", "number", "first"] ["dish"] ["table", "seat", "number", "first"] (lamS lw_lam) := nscope_by (by decide +kernel)
theorem lw_cap : capB (defScope s_least_with) (lamS lw_lam) ["table", "seat", "number", "first"] = true := by decide +kernel
theorem lw_vok {qual : Str} {n : Nat} (c_rested : Cal P w K mg base 4 "rested" (spRested K)) (f c : Addr) :
    VOk P w K mg base 5 (KnL f (lwF qual (cloFrom (cellsFrom n (defScope s_least_with).names []) (lamS lw_lam).names []) c) (lamB lw_lam)) f (cellsFrom n (defScope s_least_with).names []) ["table", "seat", "number", "first"] (spLam K) := by
  refine vok_lam (N := ["dish", "table", "seat", "number", "first"]) (ps := ["dish"]) (frL := ["table", "seat", "number", "first"]) (js := [0, 1, 2, 3]) lw_scope (fun pm tup us hl => match us, hl with | [_], _ => rfl) (fun ws vs H Q E h => ?_) (cap_sub lw_cap) (cap_sup lw_cap) rfl fun A outer s H vs ws Q hr kn C h => ?_
  · obtain ⟨_, _, _, _, _, _, _, rfl, _⟩ := h
    rfl
  · obtain ⟨a, t, fs, i, m, d, rfl, rfl, tb, ok, hi, hf, d0, q⟩ := h
    refine ⟨_, (pe_cmpR op_ge (pe_ix ix_list (pe_ix ix_tup (pe_g c_rested hr (pa_cons (pe_var (i := 1) rfl (by right; right; rfl)) (pa_cons (pe_var (i := 0) rfl (by left; rfl)) (pa_cons (pe_var (i := 4) rfl (by right; right; rfl)) pa_nil)))) pe_int (fun _ _ => rfl)) (pe_var (i := 2) rfl (by right; right; rfl)) (fun _ _ => rfl)) (pe_var (i := 3) rfl (by right; right; rfl)) (nomark _)), ?_⟩
    refine ⟨_, rfl, _, rfl, _, rfl, a, t, fs, d, rfl, tb, ok, hf, d0, fun q1 l H1 s1 nl hq hl => ?_⟩
    refine ⟨q1, _, _, _, rfl, rfl, SqT.of hq, rfl, _, rfl, l, _, _, _, rfl, rfl, SqL.of hl, atI_nat (map_at (finL_get hi)), _, rfl, _, _, rfl, rfl, q H1 s1⟩
theorem sc_least_with : FnScope ["table", "seat", "number", "first", "high", "courtesy", "enough"] ["table", "seat", "number", "first"] (defScope s_least_with) := ⟨rfl, rfl, rfl, by decide +kernel, rfl, by decide +kernel, by decide +kernel⟩
theorem ok_least_with {T : List NTab} {f c P' : Addr} {fd : FuncData} (F : FunC K "least_with" "least_with" s_least_with f c fd) (B : Bls mg) (TB : TabB base mg c P') (TI : TabIn T P' lwName) (c_rested : Cal P w K mg base 4 "rested" (spRested K)) (c_least_true : CalLT P w K mg base "least_true") :
    FnOk P w K mg base L2.CX0 7 f fd ["table", "seat", "number", "first"] (spLW K T) := by
  refine F.ok sc_least_with (fun vs H Q E h => ?_) (fun A outer s H vs Q E hr h => ?_)
  · obtain ⟨_, _, _, _, _, rfl, _⟩ := h
    rfl
  · obtain ⟨a, t, fs, i, m, rfl, tb, ok, hi, hf, m0, hT, q⟩ := h
    refine ⟨_, (pss_cons (ps_if (PW.pt (pw_and (pt_cmpR op_notN (pe_ix ix_tup (pe_ix ix_tup (pv 0) (pv 1) (fun _ _ => rfl)) pe_int (fun _ _ => rfl)) pe_non (nomark _)) (pw_and1 (pt_cmpR op_lt (pe_ix ix_tup (pe_ix ix_tup (pv 0) (pv 1) (fun _ _ => rfl)) pe_int (fun _ _ => rfl)) (pv 2) (nomark _)))))
      (pss_one (ps_ret pe_non))
      pss_nil)
      (pss_cons (ps_set (i := 4) sc_least_with.nd rfl (Or.inl rfl) (pe_op op_add (pe_callB (cr_max rfl) (by rfl) B.max (by decide +kernel) (pa_cons (pe_lc (own := [("courtesy", 5), ("enough", 6)]) (g := (gTup K 2 (gCons (gName 5) (gCons (gName 6) gNil))))  (tt := tYes) (by rfl) sc_least_with.nd (pi_tup (pv 0)) (blkOk_by (own := [("courtesy", 5), ("enough", 6)]) (N := ["table", "seat", "number", "first", "high", "courtesy", "enough"]) (sc := defScope s_least_with) (by decide +kernel)) (fun _ _ _ _ _ => by exact (pg_tup (by rfl) (pgs_cons (pg_name (i := 5) sc_least_with.nd rfl (Or.inl rfl)) (pgs_cons (pg_name (i := 6) sc_least_with.nd rfl (Or.inl rfl)) pgs_nil)))) (fun _ _ _ _ _ => by exact pts_nil) (fun _ _ _ _ _ => by exact (pv 5))) pa_nil)) (pe_op op_mul (pe_len B (pv 0)) (pv 2))))
      (pss_one (ps_ret (pe_lt (mk := lwF "least_with.<locals>.<lambda>" _) (b := lamB lw_lam) (js := [0, 1, 2, 3]) c_least_true (lw_vok c_rested) (fun _ => ⟨fun _ _ e => e, fun y hy => .inl ((by decide +kernel : ∀ y ∈ (["table", "seat", "number", "first"] : List Str), (defScope s_least_with).names.lookup y = some .cell) y hy), fun _ _ _ e => e, rfl⟩) hr (by decide) (pa_cons pe_int (pa_cons (pv 4) (pa_cons (pe_lam TB rfl TI.mem rfl TI.uniq (fun y hy e => .inl (cap_cell lw_cap y hy e)) rfl) pa_nil)))))))), ?_⟩
    obtain ⟨xs, hx, hl, hg⟩ := tb.open
    have hgt := List.getElem?_eq_getElem hi
    obtain ⟨p1, ep, hp1⟩ := hg i _ hgt
    have gi : D.gs t i = t[i] := gs_at hgt
    generalize t[i] = g at hgt hp1 gi
    obtain ⟨c0, o⟩ := g
    have n8 : t.length ≤ 8 := ok.2.1
    have oi : ∀ e, (D.gs t i).2 = some e ↔ o = some e := fun e => by rw [gi]
    by_cases lt : ∃ e, o = some e ∧ e < m
    · obtain ⟨e, rfl, lt⟩ := lt
      refine ⟨_, rfl, _, rfl, a, xs, _, _, rfl, rfl, hx, atI_nat ep, p1, _, _, _, rfl, rfl, hp1, rfl, rfl, _, rfl, iteT ?_⟩
      refine ⟨_, rfl, _, rfl, a, xs, _, _, rfl, rfl, hx, atI_nat ep, p1, _, _, _, rfl, rfl, hp1, rfl, _, rfl, _, _, rfl, rfl, _, rfl, ?_⟩
      rw [decide_eq_true lt]
      exact iteT (q .non H (EvN.refl H) hT (.inl ⟨rfl, e, (oi e).mpr rfl, lt⟩))
    have ge : ∀ e, (D.gs t i).2 = some e → m ≤ e := fun e he => Int.not_lt.mp fun z => lt ⟨e, (oi e).mp he, z⟩
    refine guardS (fun Q' k => ?_) (fun H1 s1 => ?_)
    · cases o with
      | none => exact ⟨_, rfl, _, rfl, a, xs, _, _, rfl, rfl, hx, atI_nat ep, p1, _, _, _, rfl, rfl, hp1, rfl, rfl, _, rfl, iteF (k _ (Same.refl _))⟩
      | some e =>
        refine ⟨_, rfl, _, rfl, a, xs, _, _, rfl, rfl, hx, atI_nat ep, p1, _, _, _, rfl, rfl, hp1, rfl, rfl, _, rfl, iteT ?_⟩
        refine ⟨_, rfl, _, rfl, a, xs, _, _, rfl, rfl, hx, atI_nat ep, p1, _, _, _, rfl, rfl, hp1, rfl, _, rfl, _, _, rfl, rfl, _, rfl, ?_⟩
        rw [decide_eq_false (show ¬ e < m by have := ge e ((oi e).mpr rfl); omega)]
        exact k _ (Same.refl _)
    have hx1 := Same.sqt s1 hx
    refine next_mk ⟨_, rfl, a, rfl, ⟨_, hx1⟩, fun Dl hD => ?_⟩
    refine lc_tup (K := K) (a := a) (xs := xs) (fun i H' => Same H1 H' ∧ H' Dl = some (.lst (((t.take i).map fun g => g.1).map V.int))) ⟨same_upd hD, upd_same⟩ (fun i H' _ h => Same.sqt h.1 hx1) ?_ ?_
    · rintro i' x H' hi' ⟨sm, hq⟩
      have il : i' < t.length := by rw [← hl]; exact (List.getElem?_eq_some_iff.mp hi').1
      have ht' := List.getElem?_eq_getElem il
      obtain ⟨p2, e2, hp2⟩ := hg i' _ ht'
      rw [e2] at hi'
      cases hi'
      generalize t[i'] = g' at ht' hp2
      refine ⟨p2, _, rfl, Same.sqt (Same.trans s1 sm) hp2, rfl, _, _, rfl, _, _, rfl, rfl, rfl, ?_⟩
      refine ⟨_, rfl, _, hq, by rw [List.length_map, List.length_map, List.length_take]; exact small1000 (by omega), upd_kept sm hD, ?_⟩
      rw [upd_same, List.take_add_one, ht']
      simp
    rintro H2 ⟨s2, hq2⟩
    rw [hl, List.take_length] at hq2
    refine ⟨Dl, t.map fun g => g.1, rfl, SqL.of hq2, by rw [List.length_map]; exact ok.1, fun M hM hle => ?_⟩
    have cM : ∀ j, j < t.length → (D.gs t j).1 ≤ M := fun j hj => by
      have e := List.getElem?_eq_getElem hj
      rw [gs_at e]
      exact hle _ (List.mem_map.mpr ⟨_, List.getElem_mem hj, rfl⟩)
    have pos : ∀ j, j < t.length → 0 ≤ (D.gs t j).1 := fun j hj => guest_pos ok j hj
    have M0 : 0 ≤ M := Int.le_trans (pos 0 ok.1) (cM 0 ok.1)
    have s12 := Same.trans s1 s2
    refine ⟨_, rfl, a, xs, rfl, .inr (Same.sqt s12 hx), _, rfl, _, _, rfl, rfl, .inl ⟨by rw [hl]; omega, by rw [hl]; omega⟩, _, _, rfl, rfl, ?_⟩
    have nm : (0 : Int) ≤ (xs.length : Int) * m := Int.mul_nonneg (by omega) m0
    have hT2 := Same.tabs s12 hT
    refine nx_mk ⟨_, rfl, hT2, fun f' c' H3 e1 e0 hT3 hf' hc' => ?_⟩
    have e23 : EvN H2 H3 := ⟨e1, e0⟩
    have tb3 := (tb.same s12).evn e23
    refine ⟨0, M + (xs.length : Int) * m, f', c', fun d => decide (m ≤ (Fin t fs d).had i), rfl, ⟨hf', hc'⟩, by omega, fun mm H4 Q' s4 l0 l1 k => ?_, fun d1 d2 l0 l1 l2 h => ?_, fun r H4 s4 l0 l1 bad gd => ?_⟩
    · exact ⟨a, t, fs, i, m, mm, rfl, rfl, tb3.same s4, ok, hi, hf, l0, k⟩
    · have := of_decide_eq_true h
      have up : (Fin t fs d1).had i ≤ (Fin t fs d2).had i := D.fin_mono' ok.1 pos l0 l1 i
      exact decide_eq_true (by omega)
    · refine q _ H4 (((Same.evn s12).trans e23).trans (Same.evn s4)) (Same.tabs s4 hT3) (.inr ⟨r, rfl, l0, ge, ?_, fun d h0 h1 => ?_⟩)
      · by_cases z : r < M + (xs.length : Int) * m
        · exact of_decide_eq_true (gd r (Int.le_refl _) z)
        · exact D.reach (C := M) ok.1 pos hi (cM i hi) m0 ge (by rw [← hl]; omega)
      · have := of_decide_eq_false (bad d h0 h1)
        omega
end
end Lp
namespace Lp
open PySem PySem.Spec PyProof.Rows L2 LamX NdefX
def LeastO (t : List Guest) (f i : Nat) (m : Int) : Option Int → Prop
  | none => ∃ e, (D.gs t i).2 = some e ∧ e < m
  | some r => 0 ≤ r ∧ (∀ e, (D.gs t i).2 = some e → m ≤ e) ∧ m ≤ (Fin t f r).had i ∧ ∀ d, 0 ≤ d → d < r → (Fin t f d).had i < m
theorem LeastAt.o {t : List Guest} {f i : Nat} {m : Int} {v : V} (h : LeastAt t f i m v) : ∃ o, v = optV o ∧ LeastO t f i m o := by
  rcases h with ⟨rfl, h⟩ | ⟨r, rfl, h⟩
  · exact ⟨none, rfl, h⟩
  · exact ⟨some r, rfl, h⟩
/-- the least dish that brings each so many, or None -/
def AllO (t : List Guest) (f : Nat) (ns : List Int) : Option Int → Prop
  | none => ∃ i m e, ns[i]? = some m ∧ (D.gs t i).2 = some e ∧ e < m
  | some r => 0 ≤ r ∧ (∀ i m, ns[i]? = some m → (∀ e, (D.gs t i).2 = some e → m ≤ e) ∧ m ≤ (Fin t f r).had i) ∧ ∀ d, 0 ≤ d → d < r → ∃ i m, ns[i]? = some m ∧ (Fin t f d).had i < m
theorem fin_up {t : List Guest} (ok : TabOk t) (f : Nat) {d d' : Int} (hd : 0 ≤ d) (h : d ≤ d') (i : Nat) : (Fin t f d).had i ≤ (Fin t f d').had i := D.fin_mono' ok.1 (fun j hj => guest_pos ok j hj) hd h i
theorem all_of {t : List Guest} {f : Nat} {ns : List Int} {os : List (Option Int)} (hl : os.length = ns.length) (h : ∀ i m, ns[i]? = some m → ∃ o, os[i]? = some o ∧ LeastO t f i m o) (hn : none ∈ os) : AllO t f ns none := by
  obtain ⟨i, hi⟩ := List.mem_iff_getElem?.mp hn
  have il := (List.getElem?_eq_some_iff.mp hi).1
  obtain ⟨o, h1, h2⟩ := h i _ (List.getElem?_eq_getElem (by omega))
  rw [hi] at h1
  cases h1
  obtain ⟨e, e1, e2⟩ := h2
  exact ⟨i, _, e, List.getElem?_eq_getElem (by omega), e1, e2⟩
theorem all_max {t : List Guest} (ok : TabOk t) {f : Nat} {ns rs : List Int} (hl : rs.length = ns.length) (h : ∀ i m, ns[i]? = some m → ∃ o, (rs.map some)[i]? = some o ∧ LeastO t f i m o) {M : Int} (hM : M ∈ rs) (top : ∀ y, y ∈ rs → y ≤ M) : AllO t f ns (some M) := by
  have at_ : ∀ i m, ns[i]? = some m → ∃ r, rs[i]? = some r ∧ LeastO t f i m (some r) := fun i m hm => by
    obtain ⟨o, h1, h2⟩ := h i m hm
    rw [List.getElem?_map] at h1
    cases q : rs[i]? with
    | none => rw [q] at h1; cases h1
    | some r =>
      rw [q] at h1
      cases h1
      exact ⟨r, rfl, h2⟩
  obtain ⟨j, hj⟩ := List.mem_iff_getElem?.mp hM
  have jl := (List.getElem?_eq_some_iff.mp hj).1
  obtain ⟨r, hr, l⟩ := at_ j _ (List.getElem?_eq_getElem (by omega))
  rw [hj] at hr
  cases hr
  refine ⟨l.1, fun i m hm => ?_, fun d h0 h1 => ⟨j, _, List.getElem?_eq_getElem (by omega), l.2.2.2 d h0 h1⟩⟩
  obtain ⟨r', hr', l'⟩ := at_ i m hm
  have := fin_up ok f l'.1 (top r' (List.mem_of_getElem? hr')) i
  exact ⟨l'.2.1, Int.le_trans l'.2.2.1 this⟩
theorem none_in (os : List (Option Int)) : inV .non (os.map optV) = decide (none ∈ os) := by
  induction os with
  | nil => rfl
  | cons o os ih =>
    have e : inV .non ((o :: os).map optV) = (eqV (optV o) .non || inV .non (os.map optV)) := rfl
    rw [e, ih]
    cases o with
    | none => simp [optV, eqV]
    | some m => simp [optV, eqV]
theorem opt_flat (os : List (Option Int)) : (os.map optV).all flatV = true := by
  rw [List.all_eq_true]
  intro x hx
  obtain ⟨o, _, rfl⟩ := List.mem_map.mp hx
  cases o <;> rfl
theorem all_some {os : List (Option Int)} (h : none ∉ os) : ∃ rs : List Int, os = rs.map some := by
  induction os with
  | nil => exact ⟨[], rfl⟩
  | cons o os ih =>
    obtain ⟨rs, e⟩ := ih fun z => h (List.mem_cons_of_mem _ z)
    cases o with
    | none => exact absurd List.mem_cons_self h
    | some m => exact ⟨m :: rs, by rw [e]; rfl⟩
theorem opt_ints (rs : List Int) : (rs.map some).map optV = rs.map V.int := by
  rw [List.map_map]
  rfl
def spLOA (K : PySem.W.Frag) (T : List NTab) : Sp := fun vs H Q _ => ∃ (a w : Addr) (t : List Guest) (f : Nat) (ns : List Int), vs = [.ref a, .ref w, .int (f : Int)] ∧ TableAt K H a t ∧ TabOk t ∧ f < t.length ∧ SqL K H w (ns.map V.int) ∧ ns.length = t.length ∧ (∀ m ∈ ns, 0 ≤ m) ∧ TabsN T H ∧
  ∀ (o : Option Int) (H' : Hp), EvN H H' → TabsN T H' → AllO t f ns o → Q (optV o) H'
section
variable {P : Program} {w : World} {K : PySem.W.Frag} {mg : Str → Option Value} {base : Heap}
theorem sc_least_of_all : FnScope ["table", "wishes", "first", "found", "seat", "number"] ["table", "wishes", "first"] (defScope s_least_of_all) := ⟨rfl, rfl, rfl, by decide +kernel, rfl, by decide +kernel, by decide +kernel⟩
theorem ok_least_of_all {T : List NTab} {f : Addr} {fd : FuncData} (F : L2.Fun K "least_of_all" "least_of_all" s_least_of_all f fd) (B : Bls mg) (c_least_with : Cal P w K mg base 7 "least_with" (spLW K T)) : FnOk P w K mg base L2.CX0 8 f fd ["table", "wishes", "first"] (spLOA K T) := by
  refine F.ok sc_least_of_all (fun vs H Q E h => ?_) (fun cdv A outer s H vs Q E hr h => ?_)
  · obtain ⟨_, _, _, _, _, rfl, _⟩ := h
    rfl
  · obtain ⟨a, w, t, fs, ns, rfl, tb, ok, hf, hw, hl, pos, hT, q⟩ := h
    have n8 : t.length ≤ 8 := ok.2.1
    refine ⟨_, (pss_cons (ps_setLc (i := 3) (own := [("seat", 4), ("number", 5)]) (g := (gTup K 2 (gCons (gName 4) (gCons (gName 5) gNil))))  (tt := tYes) (by rfl) sc_least_of_all.nd rfl rfl (sw_true rfl rfl rfl (by decide +kernel)) (pi_enum (by rfl) B.enumerate (pa_cons (pv 1) pa_nil)) (blkOk_by (own := [("seat", 4), ("number", 5)]) (N := ["table", "wishes", "first", "found", "seat", "number"]) (sc := defScope s_least_of_all) (by decide +kernel)) (fun _ _ _ _ _ => by exact (pg_tup (by rfl) (pgs_cons (pg_name (i := 4) sc_least_of_all.nd rfl (Or.inl rfl)) (pgs_cons (pg_name (i := 5) sc_least_of_all.nd rfl (Or.inl rfl)) pgs_nil)))) (fun _ _ _ _ _ => by exact pts_nil) (fun _ _ _ _ _ => by exact (pe_g c_least_with hr (pa_cons (pv 0) (pa_cons (pv 4) (pa_cons (pv 5) (pa_cons (pv 2) pa_nil)))))))
      (pss_one (ps_ret (pe_ifExp (pt_cmpR op_in_seq pe_non (pv 3) (by rfl)) pe_non (pe_callB (cr_max rfl) (by rfl) B.max (by decide +kernel) (pa_cons (pv 3) pa_nil)))))), ?_⟩
    refine ⟨_, rfl, w, _, rfl, hw, fun Dl hD => ?_⟩
    refine lc_it (walk_enum (xs := ns.map V.int)) (fun i H' => ∃ os : List (Option Int), EvN H H' ∧ TabsN T H' ∧ H' Dl = some (.lst (os.map optV)) ∧ os.length = i ∧ ∀ j m, j < i → ns[j]? = some m → ∃ o, os[j]? = some o ∧ LeastO t fs j m o)
      ⟨[], Same.evn (same_upd hD), Same.tabs (same_upd hD) hT, upd_same, rfl, fun j m h _ => absurd h (Nat.not_lt_zero _)⟩ (fun i H' _ h => h.choose_spec.1.sql hw) ?_ ?_
    · rintro i x' H' H6 hi ⟨os, ev, hT1, hq, lo, hos⟩ ⟨U, x1, x2, rfl, nU, rfl, e1, e2⟩
      cases e1
      obtain ⟨m, hm, rfl⟩ := ints_get e2
      have il : i < t.length := by rw [List.length_map] at hi; omega
      have sU := same_upd (o := .tup [.int (i : Int), .int m]) nU
      refine ⟨U, _, rfl, SqT.of upd_same, rfl, _, _, rfl, _, _, rfl, rfl, ?_⟩
      refine ⟨rfl, ?_⟩
      have e6 := ev.trans (Same.evn sU)
      refine ⟨_, rfl, _, rfl, _, rfl, _, rfl, a, t, fs, i, m, rfl, tb.evn e6, ok, il, hf, pos m (List.mem_of_getElem? hm), Same.tabs sU hT1, fun v H7 e7 hT7 hv => ?_⟩
      obtain ⟨o, rfl, ho⟩ := hv.o
      have hq7 := e7.lst (sU _ _ hq)
      refine ⟨_, hq7, by rw [List.length_map]; exact small1000 (by omega), os ++ [o], evn_kept (e6.trans e7) hD, tabs_upd hT7 hq7, by rw [upd_same, List.map_append]; rfl, by rw [List.length_append, lo]; rfl, fun j m' hj hm' => ?_⟩
      by_cases z : j = i
      · subst z
        rw [hm] at hm'
        cases hm'
        exact ⟨o, by rw [← lo, List.getElem?_append_right (Nat.le_refl _), Nat.sub_self]; rfl, ho⟩
      · obtain ⟨o', h1, h2⟩ := hos j m' (by omega) hm'
        exact ⟨o', by rw [List.getElem?_append_left (by omega)]; exact h1, h2⟩
    rintro H1 ⟨os, ev, hT1, hq, lo, hos⟩
    rw [List.length_map] at lo hos
    have hall : ∀ i m, ns[i]? = some m → ∃ o, os[i]? = some o ∧ LeastO t fs i m o := fun i m hm => hos i m (List.getElem?_eq_some_iff.mp hm).1 hm
    refine nx_mk ⟨_, rfl, Dl, _, rfl, .inl (SqL.of hq), rfl, opt_flat os, _, rfl, ?_⟩
    show if inV .non (os.map optV) = true then _ else _
    rw [none_in]
    by_cases z : none ∈ os
    · rw [decide_eq_true z]
      exact iteT (c_mk (q none H1 ev hT1 (all_of lo hall z)))
    · rw [decide_eq_false z]
      obtain ⟨rs, rfl⟩ := all_some z
      rw [List.length_map] at lo
      rw [opt_ints] at hq
      refine iteF ⟨_, rfl, Dl, rs, rfl, SqL.of hq, by have := ok.1; omega, fun M hM top => ?_⟩
      exact q (some M) H1 ev hT1 (all_max ok lo hall hM top)
end
end Lp
namespace Lp
open PySem PySem.Spec PyProof.Rows L2
section
variable {P : Program} {w : World} {K : PySem.W.Frag} {mg : Str → Option Value} {base : Heap}
def spNeedShares (K : PySem.W.Frag) : Sp := fun vs H Q _ => ∃ (a w : Addr) (xs : List V) (ns : List Int), vs = [.ref a, .ref w] ∧ SqT K H a xs ∧ SqL K H w (ns.map V.int) ∧ ns.length = xs.length ∧ xs.length ≤ 8 ∧ (∀ m ∈ ns, 0 ≤ m ∧ m ≤ 1000000000000000000) ∧ ∀ H', Same H H' → Q .non H'
theorem sc_need_shares : FnScope ["table", "thing", "one"] ["table", "thing"] (defScope s_need_shares) := ⟨rfl, rfl, rfl, by decide +kernel, rfl, by decide +kernel, by decide +kernel⟩
theorem ok_need_shares {f : Addr} {fd : FuncData} (F : L2.Fun K "need_shares" "need_shares" s_need_shares f fd) (B : Bls mg) (G : Greatest mg) (c_is_within : Cal P w K mg base 1 "is_within" (spWithin K)) : FnOk P w K mg base L2.CX0 2 f fd ["table", "thing"] (spNeedShares K) := by
  refine F.ok sc_need_shares (fun vs H Q E h => ?_) (fun cdv A outer s H vs Q E hr h => ?_)
  · obtain ⟨_, _, _, _, rfl, _⟩ := h
    rfl
  · obtain ⟨a, w, xs, ns, rfl, ha, hw, hl, n8, bd, k⟩ := h
    obtain ⟨gv, h_GREATEST, r_GREATEST⟩ := G
    refine ⟨_, (pss_cons (ps_if (PW.pt (pw_or (pt_not (pt_val (pe_isi B (pv 1) (pe_tList B)))) (pw_or1 (pt_cmpR op_ne (pe_len B (pv 1)) (pe_len B (pv 0)) (nomark _)))))
      (pss_one ps_never)
      pss_nil)
      (pss_one (ps_if (pt_not (pt_val (pe_callB (cr_all rfl) (by rfl) B.all (by decide +kernel) (pa_cons (pe_lc (own := [("one", 2)]) (g := gName 2)  (tt := tYes) (by rfl) sc_need_shares.nd (pi_list (pv 1)) (blkOk_by (own := [("one", 2)]) (N := ["table", "thing", "one"]) (sc := defScope s_need_shares) (by decide +kernel)) (fun _ _ _ _ _ => by exact (pg_name (i := 2) sc_need_shares.nd rfl (Or.inl rfl))) (fun _ _ _ _ _ => by exact pts_nil) (fun _ _ _ _ _ => by exact (pe_g c_is_within hr (pa_cons (pv 2) (pa_cons pe_int (pa_cons (pe_glob (by rfl) h_GREATEST r_GREATEST) pa_nil)))))) pa_nil))))
      (pss_one ps_never)
      pss_nil))), ?_⟩
    refine guardS (fun Q' k' => ?_) (fun H1 s1 => ?_)
    · refine ⟨_, rfl, arg1 (isi_ints hw ⟨_, rfl, iteF ?_⟩)⟩
      refine ⟨_, rfl, w, _, rfl, .inl hw, _, rfl, a, xs, rfl, .inr ha, rfl, _, rfl, ?_⟩
      rw [List.length_map, hl]
      exact no_ne (k' _ (Same.refl _))
    have hw1 : SqL K H1 w (ns.map V.int) := by
      rcases hw with (h | ⟨o, h⟩) | h
      · exact .inl (.inl (s1 _ _ h))
      · exact .inl (.inr ⟨o, s1 _ _ h⟩)
      · exact .inr h
    refine next_mk (guardE (fun Q' k' => ?_) (fun H2 s2 => ?_))
    · refine ⟨_, rfl, w, rfl, ⟨_, hw1⟩, fun Dl hD => ?_⟩
      refine lc_list (K := K) (a := w) (xs := ns.map V.int) (fun i H' => Same H1 H' ∧ H' Dl = some (.lst ((List.replicate i true).map V.bl))) ⟨same_upd hD, upd_same⟩ (fun i H' _ h => (Same.evn h.1).sql hw1) ?_ ?_
      · rintro i x H' hi ⟨sm, hq⟩
        obtain ⟨m, hm, rfl⟩ := ints_get hi
        have il := (List.getElem?_eq_some_iff.mp hm).1
        have b := bd m (List.mem_of_getElem? hm)
        refine ⟨rfl, ?_⟩
        refine ⟨_, rfl, _, _, _, _, rfl, .int m, ?_⟩
        refine ⟨_, hq, by rw [List.length_map, List.length_replicate]; exact small1000 (by omega), upd_kept sm hD, ?_⟩
        rw [upd_same, List.replicate_succ', List.map_append]
        show some (HO.lst (_ ++ [V.bl (decide (0 ≤ m) && decide (m ≤ 1000000000000000000))])) = _
        rw [decide_eq_true b.1, decide_eq_true b.2]
        rfl
      rintro H3 ⟨s3, hq3⟩
      refine ⟨Dl, List.replicate _ true, rfl, SqL.of hq3, ?_⟩
      rw [show (List.replicate (ns.map V.int).length true).all id = true from List.all_eq_true.mpr fun x hx => by rw [List.eq_of_mem_replicate hx]; rfl]
      exact ⟨_, rfl, k' _ s3⟩
    exact k _ (Same.trans s1 s2)
end
end Lp
namespace Lp
open PySem PySem.Spec PyProof.Rows L2 LamX NdefX
/-- which dishes bring the shares ns -/
def DishO (t : List Guest) (f : Nat) (ns : List Int) : Option (Int × Option Int) → Prop
  | none => ∀ d, 0 ≤ d → finL t f d ≠ ns
  | some (lo, hi) => AllO t f ns (some lo) ∧ (∀ d, 0 ≤ d → (finL t f d = ns ↔ lo ≤ d ∧ ∀ h, hi = some h → d ≤ h)) ∧ (∀ h, hi = some h → lo ≤ h ∧ ∃ i m, ns[i]? = some m ∧ ∀ e, (D.gs t i).2 = some e → m + 1 ≤ e) ∧ (hi = none → ∀ i m, ns[i]? = some m → ∃ e, (D.gs t i).2 = some e ∧ e ≤ m)
theorem fin_eq_of {t : List Guest} {f : Nat} {d : Int} {ns : List Int} (hl : ns.length = t.length) (h : ∀ i m, ns[i]? = some m → (Fin t f d).had i = m) : finL t f d = ns := by
  apply List.ext_getElem?
  intro i
  by_cases il : i < t.length
  · rw [finL_get il]
    cases q : ns[i]? with
    | none => rw [List.getElem?_eq_none_iff] at q; omega
    | some m => rw [h i m q]
  · rw [List.getElem?_eq_none (by rw [finL_len]; omega), List.getElem?_eq_none (by omega)]
theorem had_enough {t : List Guest} (ok : TabOk t) {f : Nat} {d : Int} {i : Nat} (hi : i < t.length) {e : Int} (he : (D.gs t i).2 = some e) : (Fin t f d).had i ≤ e := by
  have hg := List.getElem?_eq_getElem hi
  have gi : D.gs t i = t[i] := gs_at hg
  rw [gi] at he
  have e0 := ((ok.2.2 _ (List.getElem_mem hi)).2.2 e he).1
  rw [← gi] at he
  exact D.had_le' he e0 _
theorem all_least {t : List Guest} {f : Nat} {ns : List Int} {lo d : Int} (A : AllO t f ns (some lo)) (h0 : 0 ≤ d) (h : ∀ i m, ns[i]? = some m → m ≤ (Fin t f d).had i) : lo ≤ d := by
  refine Int.not_lt.mp fun z => ?_
  obtain ⟨i, m, h1, h2⟩ := A.2.2 d h0 z
  have := h i m h1
  omega
theorem dish_none1 {t : List Guest} (ok : TabOk t) {f : Nat} {ns : List Int} (A : AllO t f ns none) : DishO t f ns none := fun d _ e => by
  obtain ⟨i, m, x, h1, h2, h3⟩ := A
  obtain ⟨il, h4⟩ := had_at e h1
  have := had_enough (f := f) (d := d) ok il h2
  omega
theorem dish_none2 {t : List Guest} (ok : TabOk t) {f : Nat} {ns : List Int} (hl : ns.length = t.length) {lo : Int} (A : AllO t f ns (some lo)) (ne : finL t f lo ≠ ns) : DishO t f ns none := fun d h0 e => by
  have le := all_least A h0 fun i m h => by rw [(had_at e h).2]; exact Int.le_refl _
  refine ne (fin_eq_of hl fun i m h => ?_)
  have h1 := (A.2.1 i m h).2
  have h2 := fin_up ok f A.1 le i
  rw [(had_at e h).2] at h2
  omega
theorem dish_some {t : List Guest} (ok : TabOk t) {f : Nat} {ns : List Int} (hl : ns.length = t.length) {lo : Int} (A : AllO t f ns (some lo)) (e : finL t f lo = ns) {os : List (Option Int)} (lo' : os.length = ns.length) (hos : ∀ i m, ns[i]? = some m → ∃ o, os[i]? = some o ∧ LeastO t f i (m + 1) o) {hi : Option Int}
    (hhi : (os.filterMap id = [] ∧ hi = none) ∨ ∃ M, M ∈ os.filterMap id ∧ (∀ y ∈ os.filterMap id, M ≤ y) ∧ hi = some (M - 1)) : DishO t f ns (some (lo, hi)) := by
  have memR : ∀ {i : Nat} {r : Int}, os[i]? = some (some r) → r ∈ os.filterMap id := fun {i r} h => List.mem_filterMap.mpr ⟨some r, List.mem_of_getElem? h, rfl⟩
  have atR : ∀ {M : Int}, M ∈ os.filterMap id → ∃ i m, ns[i]? = some m ∧ LeastO t f i (m + 1) (some M) := fun {M} h => by
    obtain ⟨o, h1, h2⟩ := List.mem_filterMap.mp h
    have h2 : o = some M := h2
    subst h2
    obtain ⟨i, hi⟩ := List.mem_iff_getElem?.mp h1
    have il := (List.getElem?_eq_some_iff.mp hi).1
    obtain ⟨o, h3, h4⟩ := hos i _ (List.getElem?_eq_getElem (by omega))
    rw [hi] at h3
    cases h3
    exact ⟨i, _, List.getElem?_eq_getElem (by omega), h4⟩
  refine ⟨A, fun d h0 => ⟨fun ed => ⟨all_least A h0 fun i m h => by rw [(had_at ed h).2]; exact Int.le_refl _, fun h eh => ?_⟩, fun ⟨h1, h2⟩ => fin_eq_of hl fun i m hm => ?_⟩, fun h eh => ?_, fun eh i m hm => ?_⟩
  · rcases hhi with ⟨_, z⟩ | ⟨M, h1, _, h3⟩
    · rw [z] at eh; cases eh
    · rw [h3] at eh
      cases eh
      obtain ⟨i, m, hm, L⟩ := atR h1
      refine Int.not_lt.mp fun z => ?_
      have := fin_up ok f L.1 (show M ≤ d by omega) i
      rw [(had_at ed hm).2] at this
      have := L.2.2.1
      omega
  · have up := fin_up ok f A.1 h1 i
    obtain ⟨il, hlo⟩ := had_at e hm
    rw [hlo] at up
    refine Int.le_antisymm (Int.not_lt.mp fun z => ?_) up
    obtain ⟨o, ho, L⟩ := hos i m hm
    cases o with
    | none =>
      obtain ⟨x, e1, e2⟩ := L
      have := had_enough (f := f) (d := d) ok il e1
      omega
    | some r =>
      have rd : r ≤ d := Int.not_lt.mp fun y => by
        have := L.2.2.2 d h0 y
        omega
      rcases hhi with ⟨y, _⟩ | ⟨M, _, y2, y3⟩
      · have := memR ho
        rw [y] at this
        cases this
      · have := y2 r (memR ho)
        have := h2 _ y3
        omega
  · rcases hhi with ⟨_, z⟩ | ⟨M, h1, _, h3⟩
    · rw [z] at eh; cases eh
    · rw [h3] at eh
      cases eh
      obtain ⟨i, m, hm, L⟩ := atR h1
      refine ⟨?_, i, m, hm, L.2.1⟩
      have := L.2.2.1
      have lt : lo < M := Int.not_le.mp fun z => by
        have := fin_up ok f L.1 z i
        rw [(had_at e hm).2] at this
        omega
      omega
  · rcases hhi with ⟨z, _⟩ | ⟨M, _, _, h3⟩
    · obtain ⟨o, ho, L⟩ := hos i m hm
      cases o with
      | none =>
        obtain ⟨x, e1, e2⟩ := L
        exact ⟨x, e1, by omega⟩
      | some r =>
        have := memR ho
        rw [z] at this
        cases this
    · rw [h3] at eh; cases eh
theorem opt_get {os : List (Option Int)} {i : Nat} {x : V} (h : (os.map optV)[i]? = some x) : ∃ o, os[i]? = some o ∧ x = optV o := by
  rw [List.getElem?_map] at h
  cases e : os[i]? with
  | none => rw [e] at h; cases h
  | some o => rw [e] at h; exact ⟨o, rfl, (Option.some.inj h).symm⟩
/-- .. as a value -/
def DishV (K : PySem.W.Frag) (H : Hp) : Option (Int × Option Int) → V → Prop
  | none, v => v = .non
  | some (lo, hi), v => ∃ q, v = .ref q ∧ SqT K H q [.int lo, optV hi]
def spDishes (K : PySem.W.Frag) (T : List NTab) : Sp := fun vs H Q _ => ∃ (a w : Addr) (t : List Guest) (f : Nat) (ns : List Int), vs = [.ref a, .ref w, .int (f : Int)] ∧ TableAt K H a t ∧ TabOk t ∧ f < t.length ∧ SqL K H w (ns.map V.int) ∧ ns.length = t.length ∧ (∀ m ∈ ns, 0 ≤ m ∧ m ≤ 1000000000000000000) ∧ TabsN T H ∧
  ∀ (v : V) (o : Option (Int × Option Int)) (H' : Hp), EvN H H' → TabsN T H' → DishV K H' o v → DishO t f ns o → Q v H'
def spLeastDish (K : PySem.W.Frag) (T : List NTab) : Sp := fun vs H Q _ => ∃ (a w : Addr) (t : List Guest) (f : Nat) (ns : List Int), vs = [.ref a, .ref w, .int (f : Int)] ∧ TableAt K H a t ∧ TabOk t ∧ f < t.length ∧ SqL K H w (ns.map V.int) ∧ ns.length = t.length ∧ (∀ m ∈ ns, 0 ≤ m ∧ m ≤ 1000000000000000000) ∧ TabsN T H ∧
  ∀ (o : Option Int) (H' : Hp), EvN H H' → TabsN T H' → AllO t f ns o → Q (optV o) H'
section
variable {P : Program} {w : World} {K : PySem.W.Frag} {mg : Str → Option Value} {base : Heap}
theorem sc_least_dish : FnScope ["table", "wishes", "first"] ["table", "wishes", "first"] (defScope s_least_dish) := ⟨rfl, rfl, rfl, by decide +kernel, rfl, by decide +kernel, by decide +kernel⟩
theorem ok_least_dish {T : List NTab} {f : Addr} {fd : FuncData} (F : FunD K "least_dish" "least_dish" (defArgs s_least_dish) (defBody s_least_dish) (defScope s_least_dish) [] [("first", .int 0)] f fd) (B : Bls mg) (c_need_table : Cal P w K mg base 4 "need_table" (spNeedTable K)) (c_need_shares : Cal P w K mg base 2 "need_shares" (spNeedShares K)) (c_need_seat : Cal P w K mg base 2 "need_seat" (spNeedSeat K)) (c_least_of_all : Cal P w K mg base 8 "least_of_all" (spLOA K T)) :
    FnOk P w K mg base L2.CX0 9 f fd ["table", "wishes", "first"] (spLeastDish K T) := by
  refine F.ok sc_least_dish (fun vs H Q E h => ?_) (fun cdv A outer s H vs Q E hr h => ?_)
  · obtain ⟨_, _, _, _, _, rfl, _⟩ := h
    rfl
  · obtain ⟨a, w, t, fs, ns, rfl, tb, ok, hf, hw, hl, bd, hT, q⟩ := h
    have n8 : t.length ≤ 8 := ok.2.1
    refine ⟨_, PSs.nox (pss_cons (ps_expr (pe_g c_need_table hr (pa_cons (pv 0) pa_nil)))
      (pss_cons (ps_expr (pe_g c_need_shares hr (pa_cons (pv 0) (pa_cons (pv 1) pa_nil))))
      (pss_cons (ps_expr (pe_g c_need_seat hr (pa_cons (pv 0) (pa_cons (pv 2) pa_nil))))
      (pss_one (ps_ret (pe_g c_least_of_all hr (pa_cons (pv 0) (pa_cons (pv 1) (pa_cons (pv 2) pa_nil))))))))), ?_⟩
    refine ⟨_, rfl, a, t, rfl, tb, ok, fun H1 s1 => ?_⟩
    obtain ⟨xs, hx, hxl, _⟩ := (tb.same s1).open
    have hw1 := (Same.evn s1).sql hw
    refine ⟨_, rfl, _, rfl, a, w, xs, ns, rfl, hx, hw1, by rw [hxl]; exact hl, by rw [hxl]; exact n8, bd, fun H2 s2 => ?_⟩
    have s12 := Same.trans s1 s2
    refine ⟨_, rfl, _, rfl, a, xs, fs, rfl, Same.sqt s2 hx, by rw [hxl]; exact hf, ?_⟩
    exact ⟨_, rfl, _, rfl, _, rfl, a, w, t, fs, ns, rfl, tb.same s12, ok, hf, (Same.evn s12).sql hw, hl, fun m hm => (bd m hm).1, Same.tabs s12 hT, fun o H3 e3 hT3 ho => q o H3 ((Same.evn s12).trans e3) hT3 ho⟩
theorem sc_dishes : FnScope ["table", "shares", "first", "least", "later", "seat", "number", "dish"] ["table", "shares", "first"] (defScope s_dishes) := ⟨rfl, rfl, rfl, by decide +kernel, rfl, by decide +kernel, by decide +kernel⟩
theorem ok_dishes {T : List NTab} {f : Addr} {fd : FuncData} (F : FunD K "dishes" "dishes" (defArgs s_dishes) (defBody s_dishes) (defScope s_dishes) [] [("first", .int 0)] f fd) (B : Bls mg) (c_need_table : Cal P w K mg base 4 "need_table" (spNeedTable K)) (c_need_shares : Cal P w K mg base 2 "need_shares" (spNeedShares K)) (c_need_seat : Cal P w K mg base 2 "need_seat" (spNeedSeat K)) (c_rested : Cal P w K mg base 4 "rested" (spRested K)) (c_least_with : Cal P w K mg base 7 "least_with" (spLW K T)) (c_least_of_all : Cal P w K mg base 8 "least_of_all" (spLOA K T)) :
    FnOk P w K mg base L2.CX0 9 f fd ["table", "shares", "first"] (spDishes K T) := by
  refine F.ok sc_dishes (fun vs H Q E h => ?_) (fun cdv A outer s H vs Q E hr h => ?_)
  · obtain ⟨_, _, _, _, _, rfl, _⟩ := h
    rfl
  · obtain ⟨a, w, t, fs, ns, rfl, tb, ok, hf, hw, hl, bd, hT, q⟩ := h
    have n8 : t.length ≤ 8 := ok.2.1
    refine ⟨_, PSs.nox (pss_cons (ps_expr (pe_g c_need_table hr (pa_cons (pv 0) pa_nil)))
      (pss_cons (ps_expr (pe_g c_need_shares hr (pa_cons (pv 0) (pa_cons (pv 1) pa_nil))))
      (pss_cons (ps_expr (pe_g c_need_seat hr (pa_cons (pv 0) (pa_cons (pv 2) pa_nil))))
      (pss_cons (ps_set (i := 3) sc_dishes.nd rfl (Or.inl rfl) (pe_g c_least_of_all hr (pa_cons (pv 0) (pa_cons (pv 1) (pa_cons (pv 2) pa_nil)))))
      (pss_cons (ps_if (PW.pt (pw_or (pt_cmpR op_isN (pv 3) pe_non (nomark _)) (pw_or1 (pt_cmpR (op_neD hr.units) (pe_ix ix_tup (pe_g c_rested hr (pa_cons (pv 0) (pa_cons (pv 3) (pa_cons (pv 2) pa_nil)))) pe_int (fun _ _ => rfl)) (pv 1) (nomark _)))))
      (pss_one (ps_ret pe_non))
      pss_nil)
      (pss_cons (ps_setLc (i := 4) (own := [("seat", 5), ("number", 6)]) (g := (gTup K 2 (gCons (gName 5) (gCons (gName 6) gNil))))  (tt := tYes) (by rfl) sc_dishes.nd rfl rfl (sw_true rfl rfl rfl (by decide +kernel)) (pi_enum (by rfl) B.enumerate (pa_cons (pv 1) pa_nil)) (blkOk_by (own := [("seat", 5), ("number", 6)]) (N := ["table", "shares", "first", "least", "later", "seat", "number", "dish"]) (sc := defScope s_dishes) (by decide +kernel)) (fun _ _ _ _ _ => by exact (pg_tup (by rfl) (pgs_cons (pg_name (i := 5) sc_dishes.nd rfl (Or.inl rfl)) (pgs_cons (pg_name (i := 6) sc_dishes.nd rfl (Or.inl rfl)) pgs_nil)))) (fun _ _ _ _ _ => by exact pts_nil) (fun _ _ _ _ _ => by exact (pe_g c_least_with hr (pa_cons (pv 0) (pa_cons (pv 5) (pa_cons (pe_op op_add (pv 6) pe_int) (pa_cons (pv 2) pa_nil)))))))
      (pss_cons (ps_setLc (i := 4) (own := [("dish", 7)]) (g := gName 7)  (by rfl) sc_dishes.nd rfl rfl (sw_true rfl rfl rfl (by decide +kernel)) (pi_list (pv 4)) (blkOk_by (own := [("dish", 7)]) (N := ["table", "shares", "first", "least", "later", "seat", "number", "dish"]) (sc := defScope s_dishes) (by decide +kernel)) (fun _ _ _ _ _ => by exact (pg_name (i := 7) sc_dishes.nd rfl (Or.inl rfl))) (fun _ _ _ _ _ => by exact pts_one (pt_cmpR op_notN (pv 7) pe_non (nomark _))) (fun _ _ _ _ _ => by exact (pv 7)))
      (pss_one (ps_ret (pe_tup (pa_cons (pv 3) (pa_cons (pe_ifExp (pt_cmpR (op_neD hr.units) (pv 4) (pe_lst pa_nil) (nomark _)) (pe_op op_sub (pe_callB (cr_min rfl) (by rfl) B.min (by decide +kernel) (pa_cons (pv 4) pa_nil)) pe_int) pe_non) pa_nil)))))))))))), ?_⟩
    refine ⟨_, rfl, a, t, rfl, tb, ok, fun H1 s1 => ?_⟩
    obtain ⟨xs, hx, hxl, _⟩ := (tb.same s1).open
    have hw1 := (Same.evn s1).sql hw
    refine ⟨_, rfl, _, rfl, a, w, xs, ns, rfl, hx, hw1, by rw [hxl]; exact hl, by rw [hxl]; exact n8, bd, fun H2 s2 => ?_⟩
    have s12 := Same.trans s1 s2
    refine ⟨_, rfl, _, rfl, a, xs, fs, rfl, Same.sqt s2 hx, by rw [hxl]; exact hf, ?_⟩
    have e2 := Same.evn s12
    refine ⟨_, rfl, _, rfl, _, rfl, a, w, t, fs, ns, rfl, tb.same s12, ok, hf, e2.sql hw, hl, fun m hm => (bd m hm).1, Same.tabs s12 hT, fun o H3 e23 hT3 ho => ?_⟩
    have e3 := e2.trans e23
    have tb3 := tb.evn e3
    have hw3 := e3.sql hw
    refine nx_mk ?_
    cases o with
    | none =>
      refine ⟨_, rfl, rfl, _, rfl, iteT (iteT ?_)⟩
      exact q .non none H3 e3 hT3 rfl (dish_none1 ok ho)
    | some lo =>
    refine ⟨_, rfl, rfl, _, rfl, iteF ?_⟩
    refine ⟨_, rfl, _, rfl, _, rfl, a, t, fs, lo, rfl, tb3, ok, hf, ho.1, fun q1 l H4 s4 nl hq hl4 => ⟨q1, _, _, _, rfl, rfl, SqT.of hq, rfl, _, rfl, ?_⟩⟩
    have e4 := e3.trans (Same.evn s4)
    have hT4 := Same.tabs s4 hT3
    refine ne_ints (SqL.of hl4) ((Same.evn s4).sql hw3) ⟨_, rfl, ?_⟩
    by_cases eq : finL t fs lo ≠ ns
    · rw [decide_eq_false eq]
      exact iteT (q .non none H4 e4 hT4 rfl (dish_none2 ok hl ho eq))
    have eq := Decidable.of_not_not eq
    rw [decide_eq_true eq]
    refine iteF ?_
    have tb4 := tb.evn e4
    have hw4 := e4.sql hw
    refine next_mk ⟨_, rfl, w, _, rfl, hw4, fun Dl hD => ?_⟩
    refine lc_it (walk_enum (xs := ns.map V.int)) (fun i H' => ∃ os : List (Option Int), EvN H4 H' ∧ TabsN T H' ∧ H' Dl = some (.lst (os.map optV)) ∧ os.length = i ∧ ∀ j m, j < i → ns[j]? = some m → ∃ o, os[j]? = some o ∧ LeastO t fs j (m + 1) o)
      ⟨[], Same.evn (same_upd hD), Same.tabs (same_upd hD) hT4, upd_same, rfl, fun j m h _ => absurd h (Nat.not_lt_zero _)⟩ (fun i H' _ h => h.choose_spec.1.sql hw4) ?_ ?_
    · rintro i x' H' H6 hi ⟨os, ev, hT1, hq, lo', hos⟩ ⟨U, x1, x2, rfl, nU, rfl, e1', e2'⟩
      cases e1'
      obtain ⟨m, hm, rfl⟩ := ints_get e2'
      have il : i < t.length := by rw [List.length_map] at hi; omega
      have sU := same_upd (o := .tup [.int (i : Int), .int m]) nU
      refine ⟨U, _, rfl, SqT.of upd_same, rfl, _, _, rfl, _, _, rfl, rfl, ?_⟩
      refine ⟨rfl, ?_⟩
      have e6 := ev.trans (Same.evn sU)
      have m0 := (bd m (List.mem_of_getElem? hm)).1
      refine ⟨_, rfl, _, rfl, _, rfl, _, _, rfl, rfl, _, rfl, a, t, fs, i, m + 1, rfl, tb4.evn e6, ok, il, hf, by omega, Same.tabs sU hT1, fun v H7 e7 hT7 hv => ?_⟩
      obtain ⟨o, rfl, ho⟩ := hv.o
      have hq7 := e7.lst (sU _ _ hq)
      refine ⟨_, hq7, by rw [List.length_map]; exact small1000 (by omega), os ++ [o], evn_kept (e6.trans e7) hD, tabs_upd hT7 hq7, by rw [upd_same, List.map_append]; rfl, by rw [List.length_append, lo']; rfl, fun j m' hj hm' => ?_⟩
      by_cases z : j = i
      · subst z
        rw [hm] at hm'
        cases hm'
        exact ⟨o, by rw [← lo', List.getElem?_append_right (Nat.le_refl _), Nat.sub_self]; rfl, ho⟩
      · obtain ⟨o', h1, h2⟩ := hos j m' (by omega) hm'
        exact ⟨o', by rw [List.getElem?_append_left (by omega)]; exact h1, h2⟩
    rintro H5 ⟨os, ev, hT5, hq5, lo', hos⟩
    rw [List.length_map] at lo' hos
    have hall : ∀ i m, ns[i]? = some m → ∃ o, os[i]? = some o ∧ LeastO t fs i (m + 1) o := fun i m hm => hos i m (List.getElem?_eq_some_iff.mp hm).1 hm
    have e5 := e4.trans ev
    refine nx_mk ⟨_, rfl, Dl, rfl, ⟨_, SqL.of hq5⟩, fun D2 hD2 => ?_⟩
    refine lc_list (K := K) (a := Dl) (xs := os.map optV) (fun i H' => Same H5 H' ∧ H' D2 = some (.lst (((os.take i).filterMap id).map V.int))) ⟨same_upd hD2, upd_same⟩ (fun i H' _ h => SqL.of (h.1 _ _ hq5)) ?_ ?_
    · rintro i x H' hi ⟨sm, hq⟩
      obtain ⟨o, ho', rfl⟩ := opt_get hi
      have il := (List.getElem?_eq_some_iff.mp ho').1
      refine ⟨rfl, _, rfl, rfl, _, rfl, ?_⟩
      cases o with
      | none =>
        refine iteF ⟨sm, ?_⟩
        rw [hq, List.take_add_one, ho', List.filterMap_append]
        simp
      | some r =>
        refine iteT ⟨_, rfl, _, hq, by rw [List.length_map]; exact small1000 (Nat.le_trans (List.length_filterMap_le _ _) (by rw [List.length_take]; omega)), upd_kept sm hD2, ?_⟩
        rw [upd_same, List.take_add_one, ho', List.filterMap_append, List.map_append]
        rfl
    rintro H6 ⟨s6, hq6⟩
    rw [List.length_map, List.take_length] at hq6
    have e6 := e5.trans (Same.evn s6)
    have hT6 := Same.tabs s6 hT5
    refine nx_mk ⟨_, rfl, _, rfl, by show 0 ≤ sizeLine; decide, fun p0 hp0 => ?_⟩
    have s7 := same_upd (o := .lst (([] : List Int).map V.int)) hp0
    refine ne_ints (ms := []) (SqL.of (s7 _ _ hq6)) (SqL.of upd_same) ⟨_, rfl, ?_⟩
    have e7 := e6.trans (Same.evn s7)
    have hT7 := Same.tabs s7 hT6
    by_cases z : os.filterMap id = []
    · rw [decide_eq_true z]
      refine iteF (c_mk ⟨by show 2 ≤ sizeLine; decide, fun r hr => ?_⟩)
      have s8 := same_upd (o := .tup [.int lo, .non]) hr
      exact q (.ref r) (some (lo, none)) _ (e7.trans (Same.evn s8)) (Same.tabs s8 hT7) ⟨r, rfl, SqT.of upd_same⟩ (dish_some ok hl ho eq lo' hall (.inl ⟨z, rfl⟩))
    · rw [decide_eq_false z]
      refine iteT ⟨_, rfl, D2, _, rfl, SqL.of (s7 _ _ hq6), List.length_pos_iff.mpr z, fun M hM low => ⟨_, _, rfl, rfl, by show 2 ≤ sizeLine; decide, fun r hr => ?_⟩⟩
      have s8 := same_upd (o := .tup [.int lo, .int (M - 1)]) hr
      exact q (.ref r) (some (lo, some (M - 1))) _ (e7.trans (Same.evn s8)) (Same.tabs s8 hT7) ⟨r, rfl, SqT.of upd_same⟩ (dish_some ok hl ho eq lo' hall (.inr ⟨M, hM, low, rfl⟩))
end
end Lp
namespace Lp
open PySem PySem.Spec PyProof.Rows L2
theorem cut_take (xs : List V) (p : Nat) : cutV xs none (some (p : Int)) = xs.take p := by
  unfold cutV
  rw [HT.sIx_none, HT.sIx_nat, Nat.sub_zero, List.drop_zero, ← List.take_take, List.take_length]
theorem cut_drop (xs : List V) (p : Nat) : cutV xs (some (p : Int)) none = xs.drop p := by
  unfold cutV
  rw [HT.sIx_none, HT.sIx_nat]
  by_cases h : p ≤ xs.length
  · rw [Nat.min_eq_left h, List.take_of_length_le (by rw [List.length_drop]; exact Nat.le_refl _)]
  · rw [Nat.min_eq_right (by omega), Nat.sub_self, List.take_zero, List.drop_eq_nil_of_le (by omega)]
theorem nil_mk {σ : L2.St} {H : Hp} {k : List V → Hp → Prop} (h : k [] H) : tNil σ H k := h
theorem np_mk {σ : L2.St} {H : Hp} {k : Option Int → Hp → Prop} (h : k none H) : tNoPart σ H k := h
section
variable {P : Program} {w : World} {K : PySem.W.Frag} {mg : Str → Option Value} {base : Heap} {H : Hp} {Q : VK}
/-- t + u of any tuples -/
theorem cat_any {a b : Addr} {xs ys : List V} (h1 : SqT K H a xs) (h2 : SqT K H b ys) (hl : xs.length + ys.length ≤ 1000) (q : ∀ (r : Addr) (H' : Hp), Same H H' → SqT K H' r (xs ++ ys) → Q (.ref r) H') : rCatA K (.ref a) (.ref b) H Q :=
  ⟨a, b, xs, ys, rfl, rfl, h1, h2, Nat.le_of_lt (small1000 hl), fun e => q b H (Same.refl _) (by rw [e]; exact h2), fun _ e => q a H (Same.refl _) (by rw [e, List.append_nil]; exact h1),
    fun _ _ p hp => q p _ (same_upd hp) (SqT.of upd_same)⟩
theorem cat_list {a b : Addr} {xs ys : List V} (h1 : H a = some (.lst xs)) (h2 : H b = some (.lst ys)) (hl : xs.length + ys.length ≤ 1000) (q : ∀ (r : Addr) (H' : Hp), Same H H' → H' r = some (.lst (xs ++ ys)) → Q (.ref r) H') : rCat (.ref a) (.ref b) H Q :=
  ⟨a, b, xs, ys, rfl, rfl, h1, h2, Nat.le_of_lt (small1000 hl), fun p hp => q p _ (same_upd hp) upd_same⟩
theorem rep_list {a : Addr} {x : V} {n : Int} (h1 : H a = some (.lst [x])) (h0 : 0 ≤ n) (hn : n ≤ 1000) (q : ∀ (r : Addr) (H' : Hp), Same H H' → H' r = some (.lst (List.replicate n.toNat x)) → Q (.ref r) H') : rRep (.ref a) (.int n) H Q :=
  ⟨a, n, _, rfl, rfl, h1, by omega, by omega, by
    show 1 * n.toNat ≤ sizeLine
    exact Nat.le_of_lt (small1000 (by omega)), fun p hp => q p _ (same_upd hp) (by rw [upd_same, rep_flat])⟩
theorem cut_list {a : Addr} {xs : List V} {lo hi : Option Int} (h : SqL K H a xs) (q : ∀ (r : Addr) (H' : Hp), Same H H' → H' r = some (.lst (cutV xs lo hi)) → Q (.ref r) H') : rSlL K (.ref a) lo hi H Q :=
  ⟨a, xs, rfl, h, fun p hp => q p _ (same_upd hp) upd_same⟩
theorem sorted_any {a : Addr} {ns : List Int} (h : SqL K H a (ns.map V.int)) (hl : ns.length < 64) (q : ∀ (ns' : List Int) (r : Addr) (H' : Hp), ns'.Perm ns → ns'.Pairwise (· ≤ ·) → Same H H' → H' r = some (.lst (ns'.map V.int)) → Q (.ref r) H') : rSorted K [.ref a] H Q :=
  ⟨a, ns, rfl, h, hl, fun ns' p h1 h2 hp => q ns' p _ h1 h2 (same_upd hp) upd_same⟩
/-- the tuples of the guests, at any addresses -/
theorem TableAt.ofRefs {a : Addr} {xs : List V} {t : List Guest} (h : SqT K H a xs) (hl : xs.length = t.length) (hg : ∀ (i : Nat) (g : Guest), t[i]? = some g → ∃ p : Addr, xs[i]? = some (.ref p) ∧ SqT K H p [.int g.1, optV g.2]) : TableAt K H a t := by
  have key : ∀ (xs : List V) (t : List Guest), xs.length = t.length → (∀ (i : Nat) (g : Guest), t[i]? = some g → ∃ p : Addr, xs[i]? = some (.ref p) ∧ SqT K H p [.int g.1, optV g.2]) → ∃ ps : List Addr, xs = ps.map V.ref ∧ ps.length = t.length ∧ ∀ (i : Nat) (g : Guest) (p : Addr), t[i]? = some g → ps[i]? = some p → SqT K H p [.int g.1, optV g.2] := by
    intro xs
    induction xs with
    | nil =>
      intro t hl _
      exact ⟨[], rfl, hl, fun _ _ _ _ h => by cases h⟩
    | cons x xs ih =>
      intro t hl hg
      cases t with
      | nil => cases hl
      | cons g t =>
        obtain ⟨ps, e1, e2, e3⟩ := ih t (by simpa using hl) fun i g' h => hg (i + 1) g' h
        obtain ⟨p, e4, e5⟩ := hg 0 g rfl
        cases e4
        refine ⟨p :: ps, by rw [e1]; rfl, by simp [e2], fun i g' p' h1 h2 => ?_⟩
        cases i with
        | zero => cases h1; cases h2; exact e5
        | succ i => exact e3 i g' p' h1 h2
  obtain ⟨ps, rfl, e2, e3⟩ := key xs t hl hg
  exact .mk h e2 e3
end
end Lp
namespace D
section
variable {g g' : Gs} {n f : Nat} {d : Int}
theorem same_run2 (h : ∀ k, wants g (run g' n f d k) ((f + k) % n) ↔ wants g' (run g' n f d k) ((f + k) % n)) (k : Nat) : run g n f d k = run g' n f d k := by
  induction k with
  | zero => rfl
  | succ k ih =>
    rw [run_succ, run_succ, ih]
    by_cases w : wants g' (run g' n f d k) ((f + k) % n)
    · rw [vis_yes w, vis_yes ((h k).mpr w)]
    · rw [vis_no w, vis_no fun z => w ((h k).mp z)]
end
end D
namespace Lp
open PySem PySem.Spec PyProof.Rows L2
theorem gs_setP {t : List Guest} {p i : Nat} {g : Guest} (h : i ≠ p) : D.gs (t.set p g) i = D.gs t i := by
  show (t.set p g).getD i (0, none) = t.getD i (0, none)
  rw [List.getD_eq_getElem?_getD, List.getD_eq_getElem?_getD, List.getElem?_set_ne (Ne.symm h)]
end Lp
namespace D
section
variable {g g' : Gs} {n p : Nat} {s s' : S}
theorem moved_or (m : Moved g g' n p s s') : s.had = s'.had ∨ s.had p = s'.had p + 1 := by
  cases m with
  | same _ h => exact .inl h
  | off _ h _ _ => right; rw [h, bump_self]
  | gave i _ ip _ h _ _ _ _ =>
    right
    have e := congrFun h p
    rw [bump_ne _ (Ne.symm ip), bump_self] at e
    exact e
end
/-- a stretch of numbers by which something comes out, whatever it is measured by falls -/
theorem stretch {F : Int → List Int} {h : Int → Int} {s : List Int} {due G : Int} (mono : ∀ c c', 0 ≤ c → c ≤ c' → c' ≤ G → h c' ≤ h c ∧ (h c' = h c → F c' = F c)) (own : ∀ c, 0 ≤ c → c ≤ G → F c = s → h c = due)
    {r : Int} (r0 : 0 ≤ r) (rG : r ≤ G) (bad : ∀ m, 0 ≤ m → m < r → ¬ h m ≤ due) (hr : h r ≤ due) :
    (F r ≠ s → ∀ c, 0 ≤ c → c ≤ G → F c ≠ s) ∧ (F r = s → F G = s → ∀ c, 0 ≤ c → c ≤ G → (F c = s ↔ r ≤ c ∧ c ≤ G)) ∧
    (F r = s → F G ≠ s → ∀ q, r ≤ q → q ≤ G → (∀ m, r ≤ m → m < q → ¬ h m < due) → (∀ m, q ≤ m → m < G → h m < due) → r ≤ q - 1 ∧ q - 1 < G ∧ ∀ c, 0 ≤ c → c ≤ G → (F c = s ↔ r ≤ c ∧ c ≤ q - 1)) := by
  have ge : ∀ c, 0 ≤ c → c ≤ G → F c = s → r ≤ c := fun c c0 cG e => Int.not_lt.mp fun z => bad c c0 z (by rw [own c c0 cG e]; exact Int.le_refl _)
  refine ⟨fun ne c c0 cG e => ?_, fun e eG c c0 cG => ⟨fun ec => ⟨ge c c0 cG ec, cG⟩, fun ⟨h1, h2⟩ => ?_⟩, fun e nG q rq qG bad2 gd2 => ?_⟩
  · have rc := ge c c0 cG e
    obtain ⟨h1, h2⟩ := mono r c r0 rc cG
    have hc := own c c0 cG e
    exact ne ((h2 (by omega)).symm.trans e)
  · have hr' := own r r0 rG e
    have hG := own G (by omega) (Int.le_refl _) eG
    have m1 := mono r c r0 h1 cG
    have m2 := mono c G c0 cG (Int.le_refl _)
    exact (m1.2 (by omega)).trans e
  · have hr' := own r r0 rG e
    have mG := mono r G r0 rG (Int.le_refl _)
    have lt : h G < due := by
      rcases Int.lt_or_le (h G) due with z | z
      · exact z
      · exact absurd ((mG.2 (by omega)).trans e) nG
    have rq' : r ≤ q - 1 := by
      rcases Int.lt_or_le r q with z | z
      · omega
      · have er : r = q := by omega
        rcases Int.lt_or_le q G with y | y
        · have := gd2 q (Int.le_refl _) y
          rw [← er] at this
          omega
        · have : r = G := by omega
          rw [this] at hr'
          omega
    refine ⟨rq', by omega, fun c c0 cG => ⟨fun ec => ⟨ge c c0 cG ec, Int.not_lt.mp fun z => ?_⟩, fun ⟨h1, h2⟩ => ?_⟩⟩
    · have hc := own c c0 cG ec
      rcases Int.lt_or_le c G with y | y
      · have := gd2 c (by omega) y
        omega
      · have : c = G := by omega
        rw [this] at hc
        omega
    · have m1 := mono r c r0 h1 cG
      have := bad2 c h1 (by omega)
      exact (m1.2 (by omega)).trans e
end D
namespace Lp
open PySem PySem.Spec PyProof.Rows L2
theorem gs_set {t : List Guest} {p : Nat} (hp : p < t.length) (g : Guest) : D.gs (t.set p g) p = g := gs_at (by rw [List.getElem?_set_self hp])
theorem gs_others {t : List Guest} {p : Nat} (g g' : Guest) : D.Others (D.gs (t.set p g)) (D.gs (t.set p g')) p := fun i h => by rw [gs_setP h, gs_setP h]
/-- a courtesy one greater -/
theorem court_step {t : List Guest} (hn : 0 < t.length) {p : Nat} (hp : p < t.length) (f : Nat) (d c : Int) (e : Option Int) :
    (Fin (t.set p (c, e)) f d).had = (Fin (t.set p (c + 1, e)) f d).had ∨ (Fin (t.set p (c, e)) f d).had p = (Fin (t.set p (c + 1, e)) f d).had p + 1 := by
  obtain ⟨h1, h2⟩ := D.courtesy_moved (g := D.gs (t.set p (c, e))) (g' := D.gs (t.set p (c + 1, e))) (p := p) (gs_set hp _) (gs_set hp _)
  have m := D.fin_moved (n := t.length) (f := f) (d := d) hn (gs_others (t := t) (p := p) (c, e) (c + 1, e)) h1 h2
  have r := D.moved_or m
  have l1 : (t.set p (c, e)).length = t.length := List.length_set
  have l2 : (t.set p (c + 1, e)).length = t.length := List.length_set
  unfold Fin
  rw [l1, l2]
  exact r
theorem enough_step {t : List Guest} (hn : 0 < t.length) {p : Nat} (hp : p < t.length) (f : Nat) (d c m : Int) :
    (Fin (t.set p (c, some (m + 1))) f d).had = (Fin (t.set p (c, some m)) f d).had ∨ (Fin (t.set p (c, some (m + 1))) f d).had p = (Fin (t.set p (c, some m)) f d).had p + 1 := by
  obtain ⟨h1, h2⟩ := D.enough_moved (g := D.gs (t.set p (c, some (m + 1)))) (g' := D.gs (t.set p (c, some m))) (p := p) (gs_set hp _) (gs_set hp _)
  have k := D.fin_moved (n := t.length) (f := f) (d := d) hn (gs_others (t := t) (p := p) (c, some (m + 1)) (c, some m)) h1 h2
  have r := D.moved_or k
  have l1 : (t.set p (c, some (m + 1))).length = t.length := List.length_set
  have l2 : (t.set p (c, some m)).length = t.length := List.length_set
  unfold Fin
  rw [l1, l2]
  exact r
theorem finL_set {t : List Guest} {p : Nat} {g g' : Guest} {f : Nat} {d : Int} (h : (Fin (t.set p g) f d).had = (Fin (t.set p g') f d).had) : finL (t.set p g) f d = finL (t.set p g') f d := by
  unfold finL
  rw [h, List.length_set, List.length_set]
theorem court_mono {t : List Guest} (hn : 0 < t.length) {p : Nat} (hp : p < t.length) (f : Nat) (d : Int) (e : Option Int) {c c' : Int} (h : c ≤ c') :
    (Fin (t.set p (c', e)) f d).had p ≤ (Fin (t.set p (c, e)) f d).had p ∧ ((Fin (t.set p (c', e)) f d).had p = (Fin (t.set p (c, e)) f d).had p → finL (t.set p (c', e)) f d = finL (t.set p (c, e)) f d) := by
  obtain ⟨k, rfl⟩ : ∃ k : Nat, c' = c + k := ⟨(c' - c).toNat, by omega⟩
  clear h
  induction k with
  | zero => rw [Int.natCast_zero, Int.add_zero]; exact ⟨Int.le_refl _, fun _ => rfl⟩
  | succ k ih =>
    have st := court_step hn hp f d (c + k) e
    rw [show c + ((k + 1 : Nat) : Int) = c + k + 1 by omega]
    rcases st with z | z
    · have z' := congrFun z p
      have zl := finL_set z
      rw [← zl, ← z']
      exact ih
    · exact ⟨by omega, fun y => by omega⟩
theorem enough_mono {t : List Guest} (hn : 0 < t.length) {p : Nat} (hp : p < t.length) (f : Nat) (d c : Int) {m m' : Int} (h : m ≤ m') :
    (Fin (t.set p (c, some m)) f d).had p ≤ (Fin (t.set p (c, some m')) f d).had p ∧ ((Fin (t.set p (c, some m')) f d).had p = (Fin (t.set p (c, some m)) f d).had p → finL (t.set p (c, some m')) f d = finL (t.set p (c, some m)) f d) := by
  obtain ⟨k, rfl⟩ : ∃ k : Nat, m' = m + k := ⟨(m' - m).toNat, by omega⟩
  clear h
  induction k with
  | zero => rw [Int.natCast_zero, Int.add_zero]; exact ⟨Int.le_refl _, fun _ => rfl⟩
  | succ k ih =>
    have st := enough_step hn hp f d c (m + k)
    rw [show m + ((k + 1 : Nat) : Int) = m + k + 1 by omega]
    rcases st with z | z
    · have z' := congrFun z p
      have zl := finL_set z
      rw [zl, z']
      exact ih
    · exact ⟨by omega, fun y => by omega⟩
/-- so great an enough is as none -/
theorem enough_none {t : List Guest} {p : Nat} (hp : p < t.length) (f : Nat) {d c m : Int} (hc : 0 ≤ c) (hm : d ≤ m) : finL (t.set p (c, none)) f d = finL (t.set p (c, some m)) f d := by
  refine finL_set ?_
  have l1 : (t.set p (c, none)).length = t.length := List.length_set
  have l2 : (t.set p (c, some m)).length = t.length := List.length_set
  unfold Fin
  rw [l1, l2]
  refine congrArg D.S.had (D.same_run2 (fun k => ?_) (D.enoughVisits t.length d))
  generalize (f + k) % t.length = i
  have lt := D.had_left_le (g := D.gs (t.set p (c, some m))) (n := t.length) (f := f) (d := d) k p
  by_cases e : i = p
  · rw [e]
    unfold D.wants
    rw [gs_set hp, gs_set hp]
    refine ⟨fun w => ⟨w.1, fun x hx => ?_⟩, fun w => ⟨w.1, fun x hx => by cases hx⟩⟩
    cases hx
    have := w.1
    simp only at this
    omega
  · unfold D.wants
    rw [gs_setP e, gs_setP e]
/-- which courtesies bring the shares s -/
def CourtO (t : List Guest) (f : Nat) (d : Int) (p : Nat) (s : List Int) : Option (Int × Int) → Prop
  | none => ∀ c, 0 ≤ c → c ≤ 1000000000000000000 → finL (t.set p (c, (D.gs t p).2)) f d ≠ s
  | some (lo, hi) => 0 ≤ lo ∧ lo ≤ hi ∧ hi ≤ 1000000000000000000 ∧ ∀ c, 0 ≤ c → c ≤ 1000000000000000000 → (finL (t.set p (c, (D.gs t p).2)) f d = s ↔ lo ≤ c ∧ c ≤ hi)
/-- which enoughs do -/
def EnoughO (t : List Guest) (f : Nat) (d : Int) (p : Nat) (s : List Int) : Option (Int × Option Int) → Prop
  | none => finL (t.set p ((D.gs t p).1, none)) f d ≠ s ∧ ∀ e, 0 ≤ e → e ≤ 1000000000000000000 → finL (t.set p ((D.gs t p).1, some e)) f d ≠ s
  | some (lo, hi) => 0 ≤ lo ∧ lo ≤ 1000000000000000000 ∧ (∀ e, 0 ≤ e → e ≤ 1000000000000000000 → (finL (t.set p ((D.gs t p).1, some e)) f d = s ↔ lo ≤ e ∧ ∀ h, hi = some h → e ≤ h)) ∧ (hi = none ↔ finL (t.set p ((D.gs t p).1, none)) f d = s) ∧ ∀ h, hi = some h → lo ≤ h ∧ h < 1000000000000000000
end Lp
namespace Lp
open PySem PySem.Spec PyProof.Rows L2
section
variable {P : Program} {w : World} {K : PySem.W.Frag} {mg : Str → Option Value} {base : Heap}
/-- with_guest -/
def spGuestIn (K : PySem.W.Frag) : Sp := fun vs H Q _ => ∃ (a : Addr) (t : List Guest) (p : Nat) (u : Addr) (g : Guest), vs = [.ref a, .int (p : Int), .ref u] ∧ TableAt K H a t ∧ t.length ≤ 8 ∧ p < t.length ∧ SqT K H u [.int g.1, optV g.2] ∧
  ∀ (a' : Addr) (H' : Hp), Same H H' → TableAt K H' a' (t.set p g) → Q (.ref a') H'
theorem take_drop_put {α : Type} (l : List α) {p : Nat} (hp : p < l.length) (x : α) : l.take p ++ [x] ++ l.drop (p + 1) = l.set p x := by
  rw [List.set_eq_take_append_cons_drop, if_pos hp, List.append_assoc]
  rfl
theorem sc_with_guest : FnScope ["table", "seat", "guest"] ["table", "seat", "guest"] (defScope s_with_guest) := ⟨rfl, rfl, rfl, by decide +kernel, rfl, by decide +kernel, by decide +kernel⟩
theorem ok_with_guest {f : Addr} {fd : FuncData} (F : L2.Fun K "with_guest" "with_guest" s_with_guest f fd) : FnOk P w K mg base L2.CX0 1 f fd ["table", "seat", "guest"] (spGuestIn K) := by
  refine F.ok sc_with_guest (fun vs H Q E h => ?_) (fun cdv A outer s H vs Q E hr h => ?_)
  · obtain ⟨a, t, p, u, g, rfl, _⟩ := h
    rfl
  · obtain ⟨a, t, p, u, g, rfl, tb, n8, hp, hu, k⟩ := h
    obtain ⟨xs, hx, hl, hg⟩ := tb.open
    refine ⟨_, (pss_one (ps_ret (pe_op op_catA (pe_op op_catA (pe_slice sl_tup (pv 0) po_none (po_some (pv 1))) (pe_tup (pa_cons (pv 2) pa_nil))) (pe_slice sl_tup (pv 0) (po_some (pe_op op_add (pv 1) pe_int)) po_none)))), ?_⟩
    refine ⟨_, rfl, _, rfl, _, rfl, a, xs, rfl, hx, ?_, fun r1 hr1 => ?_⟩
    · rw [HT.sIx_none, HT.sIx_nat]
      omega
    rw [cut_take]
    have s1 := same_upd (o := .tup (xs.take p)) hr1
    refine ⟨_, rfl, by show 1 ≤ sizeLine; decide, fun r2 hr2 => ?_⟩
    have s2 := same_upd (o := .tup [.ref u]) hr2
    have s12 := Same.trans s1 s2
    refine cat_any (SqT.of (s2 _ _ upd_same)) (SqT.of upd_same) (by rw [List.length_take]; show _ + 1 ≤ 1000; omega) fun r3 H3 s3 h3 => ?_
    have s13 := Same.trans s12 s3
    refine ⟨_, rfl, _, rfl, _, _, rfl, rfl, _, rfl, a, xs, rfl, Same.sqt s13 hx, ?_, fun r4 hr4 => ?_⟩
    · rw [HT.sIx_none]
      show ¬ (HT.sIx xs.length 0 (some ((p + 1 : Nat) : Int)) = 0 ∧ _)
      rw [HT.sIx_nat]
      omega
    have e4 : cutV xs (some ((p : Int) + 1)) none = xs.drop (p + 1) := cut_drop xs (p + 1)
    have s4 := same_upd (o := .tup (cutV xs (some ((p : Int) + 1)) none)) hr4
    refine cat_any (Same.sqt s4 h3) (SqT.of upd_same) ?_ fun r5 H5 s5 h5 => ?_
    · rw [e4, List.length_append, List.length_take, List.length_drop]
      show _ + 1 + _ ≤ _
      omega
    have s15 := Same.trans (Same.trans s13 s4) s5
    rw [e4, take_drop_put xs (by omega)] at h5
    refine k r5 H5 s15 (.ofRefs h5 (by rw [List.length_set, List.length_set, hl]) fun i g' hi => ?_)
    by_cases e : i = p
    · subst e
      rw [List.getElem?_set_self hp] at hi
      cases hi
      exact ⟨u, by rw [List.getElem?_set_self (by omega)], Same.sqt s15 hu⟩
    · rw [List.getElem?_set_ne (Ne.symm e)] at hi
      obtain ⟨q, h1, h2⟩ := hg i g' hi
      exact ⟨q, by rw [List.getElem?_set_ne (Ne.symm e)]; exact h1, Same.sqt s15 h2⟩
def spNeedSeen (K : PySem.W.Frag) : Sp := fun vs H Q _ => ∃ (a w : Addr) (t : List Guest) (d : Int) (ns : List Int) (p f : Nat), vs = [.ref a, .int d, .ref w, .int (p : Int), .int (f : Int)] ∧ TableAt K H a t ∧ TabOk t ∧ 0 ≤ d ∧ d ≤ 1000000000000000000 ∧ SqL K H w (ns.map V.int) ∧ ns.length = t.length ∧ (∀ m ∈ ns, 0 ≤ m ∧ m ≤ 1000000000000000000) ∧ p < t.length ∧ f < t.length ∧ ∀ H', Same H H' → Q .non H'
theorem sc_need_seen : FnScope ["table", "dish", "shares", "seat", "first"] ["table", "dish", "shares", "seat", "first"] (defScope s_need_seen) := ⟨rfl, rfl, rfl, by decide +kernel, rfl, by decide +kernel, by decide +kernel⟩
theorem ok_need_seen {f : Addr} {fd : FuncData} (F : L2.Fun K "need_seen" "need_seen" s_need_seen f fd) (c_need_asked : Cal P w K mg base 5 "need_asked" (spNeedAsked K)) (c_need_shares : Cal P w K mg base 2 "need_shares" (spNeedShares K)) (c_need_seat : Cal P w K mg base 2 "need_seat" (spNeedSeat K)) : FnOk P w K mg base L2.CX0 6 f fd ["table", "dish", "shares", "seat", "first"] (spNeedSeen K) := by
  refine F.ok sc_need_seen (fun vs H Q E h => ?_) (fun cdv A outer s H vs Q E hr h => ?_)
  · obtain ⟨_, _, _, _, _, _, _, rfl, _⟩ := h
    rfl
  · obtain ⟨a, w, t, d, ns, p, fs, rfl, tb, ok, d0, d1, hw, hl, bd, hp, hf, k⟩ := h
    have n8 : t.length ≤ 8 := ok.2.1
    refine ⟨_, (pss_cons (ps_expr (pe_g c_need_asked hr (pa_cons (pv 0) (pa_cons (pv 1) pa_nil))))
      (pss_cons (ps_expr (pe_g c_need_shares hr (pa_cons (pv 0) (pa_cons (pv 2) pa_nil))))
      (pss_cons (ps_expr (pe_g c_need_seat hr (pa_cons (pv 0) (pa_cons (pv 3) pa_nil))))
      (pss_one (ps_expr (pe_g c_need_seat hr (pa_cons (pv 0) (pa_cons (pv 4) pa_nil)))))))), ?_⟩
    refine ⟨_, rfl, _, rfl, a, t, d, rfl, tb, ok, d0, d1, fun H1 s1 => ?_⟩
    obtain ⟨xs, hx, hxl, _⟩ := (tb.same s1).open
    refine ⟨_, rfl, _, rfl, a, w, xs, ns, rfl, hx, (Same.evn s1).sql hw, by rw [hxl]; exact hl, by rw [hxl]; exact n8, bd, fun H2 s2 => ?_⟩
    refine ⟨_, rfl, _, rfl, a, xs, p, rfl, Same.sqt s2 hx, by rw [hxl]; exact hp, ?_⟩
    exact ⟨_, rfl, _, rfl, a, xs, fs, rfl, Same.sqt s2 hx, by rw [hxl]; exact hf, k H2 (Same.trans s1 s2)⟩
end
end Lp
namespace Lp
open PySem PySem.Spec PyProof.Rows L2 LamX NdefX
/-! ### a def with the keyword first, its code object known -/
structure FunDC (K : PySem.W.Frag) (x qual : Str) (st : Stmt) (f c : Addr) (fd : FuncData) : Prop where
  fn : FunD K x qual (defArgs st) (defBody st) (defScope st) [] [("first", .int 0)] f fd
  code : fd.code = .ref c
theorem FunDC.ok {P : Program} {w : World} {K : PySem.W.Frag} {mg : Str → Option Value} {base : Heap} {x qual : Str} {st : Stmt} {f c : Addr} {fd : FuncData} {N ps : List Str} {k : Nat} {sp : Sp} (F : FunDC K x qual st f c fd) (S : FnScope N ps (defScope st)) (ln : ∀ vs H Q E, sp vs H Q E → vs.length = ps.length)
    (go : ∀ (A : Around) (outer : List Env) (s : Shared) (H : Hp) (vs : List V) (Q : VK) (E : XK), Room k (A.deeper (envOfC qual (defScope st) s.heap.objs.size f (.ref c))) → sp vs H Q E →
      ∃ t, PSs (cxOf L2.CX0 P w K mg base N qual (defScope st) f (.ref c) A outer s H E).nox (defBody st) t ∧ t { nx := fun _ H' => Q .non H', rt := Q } (L2.start N vs) H) : FnOk P w K mg base L2.CX0 (k + 1) f fd ps sp := by
  obtain ⟨oc, od, dV, kV, doc, pm, an, cdv, ct, osl, rfl, lk, hcd, _, _⟩ := F.fn.ex
  have e : cdv = .ref c := F.code
  subst e
  exact fn_of lk hcd S ln fun A outer s H vs Q E hr hsp => (go A outer s H vs Q E hr hsp).imp fun t h => ⟨h.1.nox, h.2⟩
/-! ### told, of both defs -/
def nthS (st : Stmt) (i : Nat) : Stmt := (defBody st).getD i (.Pass ⟨0, 0, 0, 0⟩)
def posOf : Stmt → Pos
  | .FunctionDef _ _ _ _ _ _ _ _ _ pos => pos
  | _ => ⟨0, 0, 0, 0⟩
/-- told: the dish with the guest (c, o) in the place; mk: which of the two is handed in -/
def spTold8 (K : PySem.W.Frag) (own : Guest → V) (other : Guest → V) (ws : List (Option V)) : Sp := fun vs H Q _ => ∃ (a : Addr) (t : List Guest) (f p : Nat) (d : Int) (g : Guest),
  ws = [some (.ref a), some (.int (p : Int)), some (other g), some (.int d), some (.int (f : Int))] ∧ vs = [own g] ∧ TableAt K H a t ∧ TabOk (t.set p g) ∧ p < t.length ∧ f < t.length ∧ 0 ≤ d ∧
  ∀ (l : Addr) (H' : Hp), Same H H' → H l = none → H' l = some (.lst ((finL (t.set p g) f d).map V.int)) → Q (.ref l) H'
def ownC (g : Guest) : V := .int g.1
def ownE (g : Guest) : V := optV g.2
abbrev c_told : Stmt := nthS s_courtesies 2
abbrev e_told : Stmt := nthS s_enoughs 2
abbrev c_frees : List Str := ["table", "seat", "enough", "dish", "first"]
abbrev e_frees : List Str := ["table", "seat", "courtesy", "dish", "first"]
section
variable {P : Program} {w : World} {K : PySem.W.Frag} {mg : Str → Option Value} {base : Heap}
theorem told_c (c_rested : Cal P w K mg base 4 "rested" (spRested K)) (c_with_guest : Cal P w K mg base 1 "with_guest" (spGuestIn K)) {qual : Str} {cl : List (Str × Addr)} (f c : Addr) :
    NOk P w K mg base L2.CX0 5 f (NF.of c_told "told" qual cl c) ["courtesy"] c_frees (spTold8 K ownC ownE) := by
  refine nok_of (N := ["courtesy", "table", "seat", "enough", "dish", "first"]) (show NScope _ _ _ (C8.fnScope c_told) from nscope_by (by decide +kernel)) (fun doc pm ctv us hl => match us, hl with | [_], _ => rfl) (fun ws vs H Q E h => ?_) fun A outer s H vs ws Q E hr hf hc hl h => ?_
  · obtain ⟨_, _, _, _, _, _, _, rfl, _⟩ := h
    rfl
  · obtain ⟨a, t, fs, p, d, ⟨c, o⟩, rfl, rfl, tb, ok, hp, hfs, d0, q⟩ := h
    have n8 : t.length ≤ 8 := by have := ok.2.1; rw [List.length_set] at this; exact this
    refine ⟨_, pss_one (ps_ret (pe_ix ix_tup (pe_g c_rested hr (pa_cons (pe_g c_with_guest hr (pa_cons (pe_var (i := 1) rfl (by right; right; rfl)) (pa_cons (pe_var (i := 2) rfl (by right; right; rfl)) (pa_cons (pe_tup (pa_cons (pe_var (i := 0) rfl (by left; rfl)) (pa_cons (pe_var (i := 3) rfl (by right; right; rfl)) pa_nil))) pa_nil))))
      (pa_cons (pe_var (i := 4) rfl (by right; right; rfl)) (pa_cons (pe_var (i := 5) rfl (by right; right; rfl)) pa_nil)))) pe_int (fun _ _ => rfl))), ?_⟩
    refine ⟨_, rfl, _, rfl, _, rfl, _, rfl, by show 2 ≤ sizeLine; decide, fun u hu => ?_⟩
    have s1 := same_upd (o := .tup [.int c, optV o]) hu
    refine ⟨a, t, p, u, (c, o), rfl, tb.same s1, n8, hp, SqT.of upd_same, fun a' H2 s2 tb2 => ?_⟩
    refine ⟨_, rfl, _, rfl, a', t.set p (c, o), fs, d, rfl, tb2, ok, by rw [List.length_set]; exact hfs, d0, fun q1 l H3 s3 nl hq hl3 => ?_⟩
    exact ⟨q1, _, _, _, rfl, rfl, SqT.of hq, rfl, q l H3 (Same.trans (Same.trans s1 s2) s3) ((Same.evo (Same.trans s1 s2)).free nl) hl3⟩
theorem told_e (c_rested : Cal P w K mg base 4 "rested" (spRested K)) (c_with_guest : Cal P w K mg base 1 "with_guest" (spGuestIn K)) {qual : Str} {cl : List (Str × Addr)} (f c : Addr) :
    NOk P w K mg base L2.CX0 5 f (NF.of e_told "told" qual cl c) ["enough"] e_frees (spTold8 K ownE ownC) := by
  refine nok_of (N := ["enough", "table", "seat", "courtesy", "dish", "first"]) (show NScope _ _ _ (C8.fnScope e_told) from nscope_by (by decide +kernel)) (fun doc pm ctv us hl => match us, hl with | [_], _ => rfl) (fun ws vs H Q E h => ?_) fun A outer s H vs ws Q E hr hf hc hl h => ?_
  · obtain ⟨_, _, _, _, _, _, _, rfl, _⟩ := h
    rfl
  · obtain ⟨a, t, fs, p, d, ⟨c, o⟩, rfl, rfl, tb, ok, hp, hfs, d0, q⟩ := h
    have n8 : t.length ≤ 8 := by have := ok.2.1; rw [List.length_set] at this; exact this
    refine ⟨_, pss_one (ps_ret (pe_ix ix_tup (pe_g c_rested hr (pa_cons (pe_g c_with_guest hr (pa_cons (pe_var (i := 1) rfl (by right; right; rfl)) (pa_cons (pe_var (i := 2) rfl (by right; right; rfl)) (pa_cons (pe_tup (pa_cons (pe_var (i := 3) rfl (by right; right; rfl)) (pa_cons (pe_var (i := 0) rfl (by left; rfl)) pa_nil))) pa_nil))))
      (pa_cons (pe_var (i := 4) rfl (by right; right; rfl)) (pa_cons (pe_var (i := 5) rfl (by right; right; rfl)) pa_nil)))) pe_int (fun _ _ => rfl))), ?_⟩
    refine ⟨_, rfl, _, rfl, _, rfl, _, rfl, by show 2 ≤ sizeLine; decide, fun u hu => ?_⟩
    have s1 := same_upd (o := .tup [.int c, optV o]) hu
    refine ⟨a, t, p, u, (c, o), rfl, tb.same s1, n8, hp, SqT.of upd_same, fun a' H2 s2 tb2 => ?_⟩
    refine ⟨_, rfl, _, rfl, a', t.set p (c, o), fs, d, rfl, tb2, ok, by rw [List.length_set]; exact hfs, d0, fun q1 l H3 s3 nl hq hl3 => ?_⟩
    exact ⟨q1, _, _, _, rfl, rfl, SqT.of hq, rfl, q l H3 (Same.trans (Same.trans s1 s2) s3) ((Same.evo (Same.trans s1 s2)).free nl) hl3⟩
end
end Lp
namespace Lp
open PySem PySem.Spec PyProof.Rows L2 LamX NdefX
def second : Expr → Expr
  | .Tuple es _ _ => es.getD 1 (.Constant .none 0 ⟨0, 0, 0, 0⟩)
  | e => e
def leftOf : Expr → Expr
  | .BinOp a _ _ _ => a
  | e => e
abbrev c_lam1 : Expr := lastArg (retOf (nthS s_courtesies 3))
abbrev c_lam2 : Expr := lastArg (leftOf (second (retOf (nthS s_courtesies 6))))
abbrev e_lam1 : Expr := lastArg (retOf (nthS s_enoughs 4))
abbrev e_lam2 : Expr := lastArg (leftOf (second (retOf (nthS s_enoughs 7))))
abbrev c_big : List Str := ["table", "dish", "seat", "first", "due", "enough", "told"]
abbrev e_big : List Str := ["table", "dish", "seat", "first", "due", "courtesy", "told"]
def lamF (lam : Expr) (qual : Str) (cells : List (Str × Addr)) (c : Addr) : NF := ⟨"<lambda>", qual, lamA lam, [], lamS lam, cloFrom cells (lamS lam).names [], c⟩
def c_toldF (n : Nat) (c : Addr) : NF := NF.of c_told "told" "courtesies.<locals>.told" (cloFrom (cellsFrom n (defScope s_courtesies).names []) (C8.fnScope c_told).names []) c
def e_toldF (n : Nat) (c : Addr) : NF := NF.of e_told "told" "enoughs.<locals>.told" (cloFrom (cellsFrom n (defScope s_enoughs).names []) (C8.fnScope e_told).names []) c
/-- a lambda over told: what the own guest then has, beside what is due -/
def spLam8 (K : PySem.W.Frag) (own other : Guest → V) (rel : Int → Int → Bool) (F : Addr → NF) (ws : List (Option V)) : Sp := fun vs H Q _ => ∃ (a : Addr) (t : List Guest) (f p : Nat) (d : Int) (g : Guest) (due : Int) (ft ct : Addr),
  ws = [some (.ref a), some (.int d), some (.int (p : Int)), some (.int (f : Int)), some (.int due), some (other g), some (.ref ft)] ∧ vs = [own g] ∧ KnN ft (F ct) H ∧ TableAt K H a t ∧ TabOk (t.set p g) ∧ p < t.length ∧ f < t.length ∧ 0 ≤ d ∧
  ∀ H', Same H H' → Q (.bl (rel ((Fin (t.set p g) f d).had p) due)) H'
theorem c_capT : capB (defScope s_courtesies) (C8.fnScope c_told) c_frees = true := by decide +kernel
theorem e_capT : capB (defScope s_enoughs) (C8.fnScope e_told) e_frees = true := by decide +kernel
theorem c_cap1 : capB (defScope s_courtesies) (lamS c_lam1) ["told", "seat", "due"] = true := by decide +kernel
theorem c_cap2 : capB (defScope s_courtesies) (lamS c_lam2) ["told", "seat", "due"] = true := by decide +kernel
theorem e_cap1 : capB (defScope s_enoughs) (lamS e_lam1) ["told", "seat", "due"] = true := by decide +kernel
theorem e_cap2 : capB (defScope s_enoughs) (lamS e_lam2) ["told", "seat", "due"] = true := by decide +kernel
section
variable {P : Program} {w : World} {K : PySem.W.Frag} {mg : Str → Option Value} {base : Heap}
theorem c_vok1 {n : Nat} (c_rested : Cal P w K mg base 4 "rested" (spRested K)) (c_with_guest : Cal P w K mg base 1 "with_guest" (spGuestIn K)) (f c : Addr) :
    VOk P w K mg base 6 (KnL f (lamF c_lam1 "courtesies.<locals>.<lambda>" (cellsFrom n (defScope s_courtesies).names []) c) (lamB c_lam1)) f (cellsFrom n (defScope s_courtesies).names []) c_big (spLam8 K ownC ownE (fun x y => decide (x ≤ y)) (c_toldF n)) := by
  refine vok_lam (N := ["courtesy", "told", "seat", "due"]) (ps := ["courtesy"]) (frL := ["told", "seat", "due"]) (js := [6, 2, 4]) (show NScope _ _ _ (lamS c_lam1) from nscope_by (by decide +kernel)) (fun pm tup us hl => match us, hl with | [_], _ => rfl) (fun ws vs H Q E h => ?_) (cap_sub c_cap1) (cap_sup c_cap1) rfl fun A outer s H vs ws Q hr kn C h => ?_
  · obtain ⟨_, _, _, _, _, _, _, _, _, _, rfl, _⟩ := h
    rfl
  · obtain ⟨a, t, fs, p, d, g, due, ft, ct, rfl, rfl, kt, tb, ok, hp, hf, d0, q⟩ := h
    have vt := vok_nok (fr := c_big) (js := [0, 2, 5, 1, 3]) (told_c (qual := "courtesies.<locals>.told") (cl := cloFrom (cellsFrom n (defScope s_courtesies).names []) (C8.fnScope c_told).names []) c_rested c_with_guest ft ct) (cap_sub c_capT) (cap_sup c_capT) rfl
    refine ⟨_, (pe_cmpR op_le (pe_ix ix_list (pe_callW (i := 1) vt (fun hp H ok q => fnAtN ok q) C rfl hr rfl (by right; right; rfl) (pa_cons (pe_var (i := 0) rfl (by left; rfl)) pa_nil) (Nat.le_refl _)) (pe_var (i := 2) rfl (by right; right; rfl)) (fun _ _ => rfl)) (pe_var (i := 3) rfl (by right; right; rfl)) (nomark _)), ?_⟩
    refine ⟨rfl, kt, _, rfl, kt, a, t, fs, p, d, g, rfl, rfl, tb, ok, hp, hf, d0, fun l H1 s1 nl hl => ?_⟩
    exact ⟨_, rfl, l, _, _, _, rfl, rfl, SqL.of hl, atI_nat (map_at (finL_get (by rw [List.length_set]; exact hp))), _, rfl, _, _, rfl, rfl, q H1 s1⟩
theorem c_vok2 {n : Nat} (c_rested : Cal P w K mg base 4 "rested" (spRested K)) (c_with_guest : Cal P w K mg base 1 "with_guest" (spGuestIn K)) (f c : Addr) :
    VOk P w K mg base 6 (KnL f (lamF c_lam2 "courtesies.<locals>.<lambda>" (cellsFrom n (defScope s_courtesies).names []) c) (lamB c_lam2)) f (cellsFrom n (defScope s_courtesies).names []) c_big (spLam8 K ownC ownE (fun x y => decide (x < y)) (c_toldF n)) := by
  refine vok_lam (N := ["courtesy", "told", "seat", "due"]) (ps := ["courtesy"]) (frL := ["told", "seat", "due"]) (js := [6, 2, 4]) (show NScope _ _ _ (lamS c_lam2) from nscope_by (by decide +kernel)) (fun pm tup us hl => match us, hl with | [_], _ => rfl) (fun ws vs H Q E h => ?_) (cap_sub c_cap2) (cap_sup c_cap2) rfl fun A outer s H vs ws Q hr kn C h => ?_
  · obtain ⟨_, _, _, _, _, _, _, _, _, _, rfl, _⟩ := h
    rfl
  · obtain ⟨a, t, fs, p, d, g, due, ft, ct, rfl, rfl, kt, tb, ok, hp, hf, d0, q⟩ := h
    have vt := vok_nok (fr := c_big) (js := [0, 2, 5, 1, 3]) (told_c (qual := "courtesies.<locals>.told") (cl := cloFrom (cellsFrom n (defScope s_courtesies).names []) (C8.fnScope c_told).names []) c_rested c_with_guest ft ct) (cap_sub c_capT) (cap_sup c_capT) rfl
    refine ⟨_, (pe_cmpR op_lt (pe_ix ix_list (pe_callW (i := 1) vt (fun hp H ok q => fnAtN ok q) C rfl hr rfl (by right; right; rfl) (pa_cons (pe_var (i := 0) rfl (by left; rfl)) pa_nil) (Nat.le_refl _)) (pe_var (i := 2) rfl (by right; right; rfl)) (fun _ _ => rfl)) (pe_var (i := 3) rfl (by right; right; rfl)) (nomark _)), ?_⟩
    refine ⟨rfl, kt, _, rfl, kt, a, t, fs, p, d, g, rfl, rfl, tb, ok, hp, hf, d0, fun l H1 s1 nl hl => ?_⟩
    exact ⟨_, rfl, l, _, _, _, rfl, rfl, SqL.of hl, atI_nat (map_at (finL_get (by rw [List.length_set]; exact hp))), _, rfl, _, _, rfl, rfl, q H1 s1⟩
theorem e_vok1 {n : Nat} (c_rested : Cal P w K mg base 4 "rested" (spRested K)) (c_with_guest : Cal P w K mg base 1 "with_guest" (spGuestIn K)) (f c : Addr) :
    VOk P w K mg base 6 (KnL f (lamF e_lam1 "enoughs.<locals>.<lambda>" (cellsFrom n (defScope s_enoughs).names []) c) (lamB e_lam1)) f (cellsFrom n (defScope s_enoughs).names []) e_big (spLam8 K ownE ownC (fun x y => decide (y ≤ x)) (e_toldF n)) := by
  refine vok_lam (N := ["enough", "told", "seat", "due"]) (ps := ["enough"]) (frL := ["told", "seat", "due"]) (js := [6, 2, 4]) (show NScope _ _ _ (lamS e_lam1) from nscope_by (by decide +kernel)) (fun pm tup us hl => match us, hl with | [_], _ => rfl) (fun ws vs H Q E h => ?_) (cap_sub e_cap1) (cap_sup e_cap1) rfl fun A outer s H vs ws Q hr kn C h => ?_
  · obtain ⟨_, _, _, _, _, _, _, _, _, _, rfl, _⟩ := h
    rfl
  · obtain ⟨a, t, fs, p, d, g, due, ft, ct, rfl, rfl, kt, tb, ok, hp, hf, d0, q⟩ := h
    have vt := vok_nok (fr := e_big) (js := [0, 2, 5, 1, 3]) (told_e (qual := "enoughs.<locals>.told") (cl := cloFrom (cellsFrom n (defScope s_enoughs).names []) (C8.fnScope e_told).names []) c_rested c_with_guest ft ct) (cap_sub e_capT) (cap_sup e_capT) rfl
    refine ⟨_, (pe_cmpR op_ge (pe_ix ix_list (pe_callW (i := 1) vt (fun hp H ok q => fnAtN ok q) C rfl hr rfl (by right; right; rfl) (pa_cons (pe_var (i := 0) rfl (by left; rfl)) pa_nil) (Nat.le_refl _)) (pe_var (i := 2) rfl (by right; right; rfl)) (fun _ _ => rfl)) (pe_var (i := 3) rfl (by right; right; rfl)) (nomark _)), ?_⟩
    refine ⟨rfl, kt, _, rfl, kt, a, t, fs, p, d, g, rfl, rfl, tb, ok, hp, hf, d0, fun l H1 s1 nl hl => ?_⟩
    exact ⟨_, rfl, l, _, _, _, rfl, rfl, SqL.of hl, atI_nat (map_at (finL_get (by rw [List.length_set]; exact hp))), _, rfl, _, _, rfl, rfl, q H1 s1⟩
theorem e_vok2 {n : Nat} (c_rested : Cal P w K mg base 4 "rested" (spRested K)) (c_with_guest : Cal P w K mg base 1 "with_guest" (spGuestIn K)) (f c : Addr) :
    VOk P w K mg base 6 (KnL f (lamF e_lam2 "enoughs.<locals>.<lambda>" (cellsFrom n (defScope s_enoughs).names []) c) (lamB e_lam2)) f (cellsFrom n (defScope s_enoughs).names []) e_big (spLam8 K ownE ownC (fun x y => decide (y < x)) (e_toldF n)) := by
  refine vok_lam (N := ["enough", "told", "seat", "due"]) (ps := ["enough"]) (frL := ["told", "seat", "due"]) (js := [6, 2, 4]) (show NScope _ _ _ (lamS e_lam2) from nscope_by (by decide +kernel)) (fun pm tup us hl => match us, hl with | [_], _ => rfl) (fun ws vs H Q E h => ?_) (cap_sub e_cap2) (cap_sup e_cap2) rfl fun A outer s H vs ws Q hr kn C h => ?_
  · obtain ⟨_, _, _, _, _, _, _, _, _, _, rfl, _⟩ := h
    rfl
  · obtain ⟨a, t, fs, p, d, g, due, ft, ct, rfl, rfl, kt, tb, ok, hp, hf, d0, q⟩ := h
    have vt := vok_nok (fr := e_big) (js := [0, 2, 5, 1, 3]) (told_e (qual := "enoughs.<locals>.told") (cl := cloFrom (cellsFrom n (defScope s_enoughs).names []) (C8.fnScope e_told).names []) c_rested c_with_guest ft ct) (cap_sub e_capT) (cap_sup e_capT) rfl
    refine ⟨_, (pe_cmpR op_gt (pe_ix ix_list (pe_callW (i := 1) vt (fun hp H ok q => fnAtN ok q) C rfl hr rfl (by right; right; rfl) (pa_cons (pe_var (i := 0) rfl (by left; rfl)) pa_nil) (Nat.le_refl _)) (pe_var (i := 2) rfl (by right; right; rfl)) (fun _ _ => rfl)) (pe_var (i := 3) rfl (by right; right; rfl)) (nomark _)), ?_⟩
    refine ⟨rfl, kt, _, rfl, kt, a, t, fs, p, d, g, rfl, rfl, tb, ok, hp, hf, d0, fun l H1 s1 nl hl => ?_⟩
    exact ⟨_, rfl, l, _, _, _, rfl, rfl, SqL.of hl, atI_nat (map_at (finL_get (by rw [List.length_set]; exact hp))), _, rfl, _, _, rfl, rfl, q H1 s1⟩
end
end Lp
namespace D
theorem polite_none {g : Gs} {n f p : Nat} {d : Int} (h : d ≤ (g p).1) (k : Nat) : (run g n f d k).had p = 0 := by
  induction k with
  | zero => rfl
  | succ k ih =>
    rw [run_succ]
    by_cases e : p = (f + k) % n
    · rw [vis_no fun w => by
        have h1 := w.1
        rw [← e] at h1
        have h2 := left_le (g := g) (n := n) (f := f) (d := d) k
        omega]
      exact ih
    · unfold vis
      split
      · show bump _ _ p = 0
        rw [bump_ne _ e]
        exact ih
      · exact ih
end D
namespace Lp
open PySem PySem.Spec PyProof.Rows L2 LamX NdefX
def cName : Nat → Nat → Str := fun l c => if l = (posOf c_told).line ∧ c = (posOf c_told).col then "courtesies.<locals>.told" else "courtesies.<locals>.<lambda>"
def eName : Nat → Nat → Str := fun l c => if l = (posOf e_told).line ∧ c = (posOf e_told).col then "enoughs.<locals>.told" else "enoughs.<locals>.<lambda>"
theorem tabok_set {t : List Guest} (ok : TabOk t) {p : Nat} {g : Guest} (h1 : 0 ≤ g.1 ∧ g.1 ≤ 1000000000000000000) (h2 : ∀ m, g.2 = some m → 0 ≤ m ∧ m ≤ 1000000000000000000) : TabOk (t.set p g) :=
  ⟨by rw [List.length_set]; exact ok.1, by rw [List.length_set]; exact ok.2.1, fun x hx => by
    rcases List.mem_or_eq_of_mem_set hx with z | z
    · exact ok.2.2 x z
    · rw [z]; exact ⟨h1.1, h1.2, h2⟩⟩
def CourtV (K : PySem.W.Frag) (H : Hp) : Option (Int × Int) → V → Prop
  | none, v => v = .non
  | some (lo, hi), v => ∃ q, v = .ref q ∧ SqT K H q [.int lo, .int hi]
def EnoughV (K : PySem.W.Frag) (H : Hp) : Option (Int × Option Int) → V → Prop
  | none, v => v = .non
  | some (lo, hi), v => ∃ q, v = .ref q ∧ SqT K H q [.int lo, optV hi]
def spCourt (K : PySem.W.Frag) (T : List NTab) : Sp := fun vs H Q _ => ∃ (a w : Addr) (t : List Guest) (d : Int) (ns : List Int) (p f : Nat), vs = [.ref a, .int d, .ref w, .int (p : Int), .int (f : Int)] ∧ TableAt K H a t ∧ TabOk t ∧ 0 ≤ d ∧ d ≤ 1000000000000000000 ∧ SqL K H w (ns.map V.int) ∧ ns.length = t.length ∧ (∀ m ∈ ns, 0 ≤ m ∧ m ≤ 1000000000000000000) ∧ p < t.length ∧ f < t.length ∧ TabsN T H ∧
  ∀ (v : V) (o : Option (Int × Int)) (H' : Hp), EvN H H' → TabsN T H' → CourtV K H' o v → CourtO t f d p ns o → Q v H'
def spEnough (K : PySem.W.Frag) (T : List NTab) : Sp := fun vs H Q _ => ∃ (a w : Addr) (t : List Guest) (d : Int) (ns : List Int) (p f : Nat), vs = [.ref a, .int d, .ref w, .int (p : Int), .int (f : Int)] ∧ TableAt K H a t ∧ TabOk t ∧ 0 ≤ d ∧ d ≤ 1000000000000000000 ∧ SqL K H w (ns.map V.int) ∧ ns.length = t.length ∧ (∀ m ∈ ns, 0 ≤ m ∧ m ≤ 1000000000000000000) ∧ p < t.length ∧ f < t.length ∧ TabsN T H ∧
  ∀ (v : V) (o : Option (Int × Option Int)) (H' : Hp), EvN H H' → TabsN T H' → EnoughV K H' o v → EnoughO t f d p ns o → Q v H'
theorem EvN.knN {H H' : Hp} (e : EvN H H') {f : Addr} {F : NF} (h : KnN f F H) : KnN f F H' := ⟨e.1 _ _ h.1 fun ps => fnO_ne ps, e.1 _ _ h.2 fun ps => codeO_ne ps⟩
section
variable {P : Program} {w : World} {K : PySem.W.Frag} {mg : Str → Option Value} {base : Heap}
theorem sc_courtesies : FnScope ["table", "dish", "shares", "seat", "first", "due", "enough", "told", "least"] ["table", "dish", "shares", "seat", "first"] (defScope s_courtesies) := ⟨rfl, rfl, rfl, by decide +kernel, rfl, by decide +kernel, by decide +kernel⟩
theorem ok_courtesies {T : List NTab} {f c P' : Addr} {fd : FuncData} (F : FunDC K "courtesies" "courtesies" s_courtesies f c fd) (B : Bls mg) (G : Greatest mg) (TB : TabB base mg c P') (TI : TabIn T P' cName) (c_need_seen : Cal P w K mg base 6 "need_seen" (spNeedSeen K)) (c_with_guest : Cal P w K mg base 1 "with_guest" (spGuestIn K)) (c_rested : Cal P w K mg base 4 "rested" (spRested K)) (c_least_true : CalLT P w K mg base "least_true") :
    FnOk P w K mg base L2.CX0 8 f fd ["table", "dish", "shares", "seat", "first"] (spCourt K T) := by
  refine F.ok sc_courtesies (fun vs H Q E h => ?_) (fun A outer s H vs Q E hr h => ?_)
  · obtain ⟨_, _, _, _, _, _, _, rfl, _⟩ := h
    rfl
  · obtain ⟨a, w, t, d, ns, p, fs, rfl, tb, ok, d0, d1, hw, hl, bd, hp, hf, hT, q⟩ := h
    obtain ⟨gv, h_GREATEST, r_GREATEST⟩ := G
    refine ⟨_, (pss_cons (ps_expr (pe_g c_need_seen hr (pa_cons (pv 0) (pa_cons (pv 1) (pa_cons (pv 2) (pa_cons (pv 3) (pa_cons (pv 4) pa_nil)))))))
      (pss_cons (ps_asg (pe_tup (pa_cons (pe_ix ix_list (pv 2) (pv 3) (fun _ _ => rfl)) (pa_cons (pe_ix ix_tup (pe_ix ix_tup (pv 0) (pv 3) (fun _ _ => rfl)) pe_int (fun _ _ => rfl)) pa_nil))) (pg_tup (by rfl) (pgs_cons (pg_name (i := 5) sc_courtesies.nd rfl (Or.inr rfl)) (pgs_cons (pg_name (i := 6) sc_courtesies.nd rfl (Or.inr rfl)) pgs_nil))))
      (pss_cons (ps_ndefM (i := 7) TB rfl TI.mem rfl TI.uniq (fun y hy e => .inl (cap_cell c_capT y hy e)) rfl rfl rfl sc_courtesies.nd rfl (Or.inr rfl) (.inl rfl))
      (pss_cons (ps_set (i := 8) sc_courtesies.nd rfl (Or.inl rfl) (pe_lt (mk := fun c => lamF c_lam1 "courtesies.<locals>.<lambda>" (cellsFrom (s.heap.objs.size + 1) (defScope s_courtesies).names []) c) (b := lamB c_lam1) (js := [0, 1, 3, 4, 5, 6, 7]) c_least_true (c_vok1 c_rested c_with_guest) (fun _ => ⟨fun _ _ e => e, fun y hy => .inl ((by decide +kernel : ∀ y ∈ c_big, (defScope s_courtesies).names.lookup y = some .cell) y hy), fun _ _ _ e => e, rfl⟩) hr (by decide) (pa_cons pe_int (pa_cons (pe_glob (by rfl) h_GREATEST r_GREATEST) (pa_cons (pe_lam TB rfl TI.mem rfl TI.uniq (fun y hy e => .inl (cap_cell c_cap1 y hy e)) rfl) pa_nil)))))
      (pss_cons (ps_if (pt_cmpR (op_neD hr.units) (pe_calln (i := 7) (mk := fun c => NF.of c_told "told" "courtesies.<locals>.told" (cloFrom (cellsFrom (s.heap.objs.size + 1) (defScope s_courtesies).names []) (C8.fnScope c_told).names []) c) (js := [0, 3, 6, 1, 4]) (told_c c_rested c_with_guest) (fun _ => rfl) (fun ok => Caps.made ok (fun y hy e => .inl (cap_cell c_capT y hy e)) (cap_fr c_capT) rfl) hr (by decide) L2.pass0 rfl (by right; left; rfl) (pa_cons (pv 8) pa_nil)) (pv 2) (nomark _))
      (pss_one (ps_ret pe_non))
      pss_nil)
      (pss_cons (ps_if (pt_cmpR (op_eqD hr.units) (pe_calln (i := 7) (mk := fun c => NF.of c_told "told" "courtesies.<locals>.told" (cloFrom (cellsFrom (s.heap.objs.size + 1) (defScope s_courtesies).names []) (C8.fnScope c_told).names []) c) (js := [0, 3, 6, 1, 4]) (told_c c_rested c_with_guest) (fun _ => rfl) (fun ok => Caps.made ok (fun y hy e => .inl (cap_cell c_capT y hy e)) (cap_fr c_capT) rfl) hr (by decide) L2.pass0 rfl (by right; left; rfl) (pa_cons (pe_glob (by rfl) h_GREATEST r_GREATEST) pa_nil)) (pv 2) (nomark _))
      (pss_one (ps_ret (pe_tup (pa_cons (pv 8) (pa_cons (pe_glob (by rfl) h_GREATEST r_GREATEST) pa_nil)))))
      pss_nil)
      (pss_one (ps_ret (pe_tup (pa_cons (pv 8) (pa_cons (pe_op op_sub (pe_lt (mk := fun c => lamF c_lam2 "courtesies.<locals>.<lambda>" (cellsFrom (s.heap.objs.size + 1) (defScope s_courtesies).names []) c) (b := lamB c_lam2) (js := [0, 1, 3, 4, 5, 6, 7]) c_least_true (c_vok2 c_rested c_with_guest) (fun _ => ⟨fun _ _ e => e, fun y hy => .inl ((by decide +kernel : ∀ y ∈ c_big, (defScope s_courtesies).names.lookup y = some .cell) y hy), fun _ _ _ e => e, rfl⟩) hr (by decide) (pa_cons (pv 8) (pa_cons (pe_glob (by rfl) h_GREATEST r_GREATEST) (pa_cons (pe_lam TB rfl TI.mem rfl TI.uniq (fun y hy e => .inl (cap_cell c_cap2 y hy e)) rfl) pa_nil)))) pe_int) pa_nil))))))))))), ?_⟩
    refine ⟨_, rfl, _, rfl, _, rfl, _, rfl, _, rfl, a, w, t, d, ns, p, fs, rfl, tb, ok, d0, d1, hw, hl, bd, hp, hf, fun H1 s1 => ?_⟩
    obtain ⟨xs, hx, hxl, hg⟩ := (tb.same s1).open
    have hgt := List.getElem?_eq_getElem hp
    obtain ⟨pg, ep, hpg⟩ := hg p _ hgt
    have gi : D.gs t p = t[p] := gs_at hgt
    have gok := ok.2.2 _ (List.getElem_mem hp)
    generalize t[p] = g at hgt hpg gi gok
    obtain ⟨c0, o⟩ := g
    have hdue := List.getElem?_eq_getElem (show p < ns.length by omega)
    generalize ns[p] = due at hdue
    have due0 := (bd due (List.mem_of_getElem? hdue)).1
    have hw1 := (Same.evn s1).sql hw
    refine ⟨_, rfl, _, rfl, w, _, _, _, rfl, rfl, hw1, atI_nat (map_at hdue), _, rfl, _, rfl, a, xs, _, _, rfl, rfl, hx, atI_nat ep, pg, _, _, _, rfl, rfl, hpg, rfl, by show 2 ≤ sizeLine; decide, fun u hu => ⟨u, _, rfl, SqT.of upd_same, rfl, _, _, rfl, _, _, rfl, rfl, ?_⟩⟩
    have s2 := same_upd (o := .tup [.int due, optV o]) hu
    have s12 := Same.trans s1 s2
    generalize upd H1 u (.tup [.int due, optV o]) = H2 at s2 s12 ⊢
    -- def told
    refine nx_mk ⟨Same.tabs s12 hT, fun ft ct H3 x1 x2 hT3 nf hft hct => ?_⟩
    have e3 : EvN H H3 := (Same.evn s12).trans ⟨x1, x2⟩
    have kt : KnN ft (c_toldF (s.heap.objs.size + 1) ct) H3 := ⟨hft, hct⟩
    have tb3 := tb.evn e3
    have okc : ∀ m, 0 ≤ m → m ≤ 1000000000000000000 → TabOk (t.set p (m, o)) := fun m h0 h1 => tabok_set ok ⟨h0, h1⟩ gok.2.2
    -- the least
    refine nx_mk ⟨hT3, fun f' c' H4 y1 y2 hT4 hf' hc' => ?_⟩
    have e34 : EvN H3 H4 := ⟨y1, y2⟩
    have e4 : EvN H H4 := e3.trans e34
    have kt4 := e34.knN kt
    have tb4 := tb.evn e4
    have hpos : 0 < t.length := ok.1
    refine ⟨0, 1000000000000000000, f', c', fun m => decide ((Fin (t.set p (m, o)) fs d).had p ≤ due), rfl, ⟨hf', hc'⟩, by decide, fun m H' Q' s' l0 l1 k => ?_, fun m m' l0 l1 l2 h => ?_, fun r H5 s5 r0 rG bad gd => ?_⟩
    · exact ⟨a, t, fs, p, d, (m, o), due, ft, ct, rfl, rfl, ⟨s' _ _ kt4.1, s' _ _ kt4.2⟩, tb4.same s', okc m l0 (by omega), hp, hf, d0, k⟩
    · have := of_decide_eq_true h
      have up := (court_mono hpos hp fs d o l1).1
      exact decide_eq_true (by omega)
    have bad' : ∀ m, 0 ≤ m → m < r → ¬ (Fin (t.set p (m, o)) fs d).had p ≤ due := fun m h0 h1 => of_decide_eq_false (bad m h0 h1)
    have hr' : (Fin (t.set p (r, o)) fs d).had p ≤ due := by
      rcases Int.lt_or_le r 1000000000000000000 with z | z
      · exact of_decide_eq_true (gd r (Int.le_refl _) z)
      · have z0 : (Fin (t.set p (r, o)) fs d).had p = 0 := D.polite_none (by rw [gs_set hp]; show d ≤ r; omega) _
        omega
    have S := D.stretch (F := fun c => finL (t.set p (c, o)) fs d) (h := fun c => (Fin (t.set p (c, o)) fs d).had p) (s := ns) (due := due) (G := 1000000000000000000) (fun c c' h0 h1 h2 => court_mono hpos hp fs d o h1) (fun c h0 h1 e => (had_at e hdue).2) r0 rG bad' hr'
    have e45 := Same.evn s5
    have e5 := e4.trans e45
    have kt5 := e45.knN kt4
    have tb5 := tb.evn e5
    have hT5 := Same.tabs s5 hT4
    -- told(least)
    refine nx_mk ⟨ft, ct, rfl, kt5.1, _, rfl, kt5.1, kt5.2, a, t, fs, p, d, (r, o), rfl, rfl, tb5, okc r r0 rG, hp, hf, d0, fun l H6 s6 nl hl6 => ⟨_, rfl, ?_⟩⟩
    have e6 := e5.trans (Same.evn s6)
    have hT6 := Same.tabs s6 hT5
    have kt6 := (Same.evn s6).knN kt5
    refine ne_ints (SqL.of hl6) (e6.sql hw) ⟨_, rfl, ?_⟩
    by_cases eq : finL (t.set p (r, o)) fs d ≠ ns
    · rw [decide_eq_false eq]
      exact iteT (q .non none H6 e6 hT6 rfl fun m h0 h1 => by rw [gi]; exact S.1 eq m h0 h1)
    have eq := Decidable.of_not_not eq
    rw [decide_eq_true eq]
    refine iteF ?_
    -- told(GREATEST)
    refine next_mk ⟨ft, ct, rfl, kt6.1, kt6.1, kt6.2, a, t, fs, p, d, (1000000000000000000, o), rfl, rfl, tb.evn e6, okc _ (by decide) (by decide), hp, hf, d0, fun l7 H7 s7 nl7 hl7 => ⟨_, rfl, ?_⟩⟩
    have e7 := e6.trans (Same.evn s7)
    have hT7 := Same.tabs s7 hT6
    have kt7 := (Same.evn s7).knN kt6
    refine eq_ints (SqL.of hl7) (e7.sql hw) ⟨_, rfl, ?_⟩
    by_cases eqG : finL (t.set p (1000000000000000000, o)) fs d = ns
    · rw [decide_eq_true eqG]
      refine iteT ⟨_, rfl, by show 2 ≤ sizeLine; decide, fun r9 hr9 => ?_⟩
      have s9 := same_upd (o := .tup [.int r, .int 1000000000000000000]) hr9
      exact q (.ref r9) (some (r, 1000000000000000000)) _ (e7.trans (Same.evn s9)) (Same.tabs s9 hT7) ⟨r9, rfl, SqT.of upd_same⟩ ⟨r0, rG, Int.le_refl _, fun m h0 h1 => by rw [gi]; exact S.2.1 eq eqG m h0 h1⟩
    rw [decide_eq_false eqG]
    refine iteF (next_mk ⟨_, rfl, _, rfl, hT7, fun f2 c2 H8 z1 z2 hT8 hf2 hc2 => ?_⟩)
    have e78 : EvN H7 H8 := ⟨z1, z2⟩
    have e8 := e7.trans e78
    have kt8 := e78.knN kt7
    have tb8 := tb.evn e8
    refine ⟨r, 1000000000000000000, f2, c2, fun m => decide ((Fin (t.set p (m, o)) fs d).had p < due), rfl, ⟨hf2, hc2⟩, rG, fun m H' Q' s' l0 l1 k => ?_, fun m m' l0 l1 l2 h => ?_, fun r2 H9 s9 l1 l2 bad2 gd2 => ⟨_, _, rfl, rfl, by show 2 ≤ sizeLine; decide, fun r9 hr9 => ?_⟩⟩
    · exact ⟨a, t, fs, p, d, (m, o), due, ft, ct, rfl, rfl, ⟨s' _ _ kt8.1, s' _ _ kt8.2⟩, tb8.same s', okc m (by omega) (by omega), hp, hf, d0, k⟩
    · have := of_decide_eq_true h
      have up := (court_mono hpos hp fs d o l1).1
      exact decide_eq_true (by omega)
    have s10 := same_upd (o := .tup [.int r, .int (r2 - 1)]) hr9
    obtain ⟨b1, b2, b3⟩ := S.2.2 eq eqG r2 l1 l2 (fun m h0 h1 => of_decide_eq_false (bad2 m h0 h1)) (fun m h0 h1 => of_decide_eq_true (gd2 m h0 h1))
    exact q (.ref r9) (some (r, r2 - 1)) _ ((e8.trans (Same.evn s9)).trans (Same.evn s10)) (Same.tabs s10 (Same.tabs s9 hT8)) ⟨r9, rfl, SqT.of upd_same⟩ ⟨r0, b1, by omega, fun m h0 h1 => by rw [gi]; exact b3 m h0 h1⟩
theorem sc_enoughs : FnScope ["table", "dish", "shares", "seat", "first", "due", "courtesy", "told", "least"] ["table", "dish", "shares", "seat", "first"] (defScope s_enoughs) := ⟨rfl, rfl, rfl, by decide +kernel, rfl, by decide +kernel, by decide +kernel⟩
theorem ok_enoughs {T : List NTab} {f c P' : Addr} {fd : FuncData} (F : FunDC K "enoughs" "enoughs" s_enoughs f c fd) (B : Bls mg) (G : Greatest mg) (TB : TabB base mg c P') (TI : TabIn T P' eName) (c_need_seen : Cal P w K mg base 6 "need_seen" (spNeedSeen K)) (c_with_guest : Cal P w K mg base 1 "with_guest" (spGuestIn K)) (c_rested : Cal P w K mg base 4 "rested" (spRested K)) (c_least_true : CalLT P w K mg base "least_true") :
    FnOk P w K mg base L2.CX0 8 f fd ["table", "dish", "shares", "seat", "first"] (spEnough K T) := by
  refine F.ok sc_enoughs (fun vs H Q E h => ?_) (fun A outer s H vs Q E hr h => ?_)
  · obtain ⟨_, _, _, _, _, _, _, rfl, _⟩ := h
    rfl
  · obtain ⟨a, w, t, d, ns, p, fs, rfl, tb, ok, d0, d1, hw, hl, bd, hp, hf, hT, q⟩ := h
    obtain ⟨gv, h_GREATEST, r_GREATEST⟩ := G
    refine ⟨_, (pss_cons (ps_expr (pe_g c_need_seen hr (pa_cons (pv 0) (pa_cons (pv 1) (pa_cons (pv 2) (pa_cons (pv 3) (pa_cons (pv 4) pa_nil)))))))
      (pss_cons (ps_asg (pe_tup (pa_cons (pe_ix ix_list (pv 2) (pv 3) (fun _ _ => rfl)) (pa_cons (pe_ix ix_tup (pe_ix ix_tup (pv 0) (pv 3) (fun _ _ => rfl)) pe_int (fun _ _ => rfl)) pa_nil))) (pg_tup (by rfl) (pgs_cons (pg_name (i := 5) sc_enoughs.nd rfl (Or.inr rfl)) (pgs_cons (pg_name (i := 6) sc_enoughs.nd rfl (Or.inr rfl)) pgs_nil))))
      (pss_cons (ps_ndefM (i := 7) TB rfl TI.mem rfl TI.uniq (fun y hy e => .inl (cap_cell e_capT y hy e)) rfl rfl rfl sc_enoughs.nd rfl (Or.inr rfl) (.inl rfl))
      (pss_cons (ps_if (pt_cmpR op_lt (pe_ix ix_list (pe_calln (i := 7) (mk := fun c => NF.of e_told "told" "enoughs.<locals>.told" (cloFrom (cellsFrom (s.heap.objs.size + 1) (defScope s_enoughs).names []) (C8.fnScope e_told).names []) c) (js := [0, 3, 6, 1, 4]) (told_e c_rested c_with_guest) (fun _ => rfl) (fun ok => Caps.made ok (fun y hy e => .inl (cap_cell e_capT y hy e)) (cap_fr e_capT) rfl) hr (by decide) L2.pass0 rfl (by right; left; rfl) (pa_cons pe_non pa_nil)) (pv 3) (fun _ _ => rfl)) (pv 5) (nomark _))
      (pss_one (ps_ret pe_non))
      pss_nil)
      (pss_cons (ps_set (i := 8) sc_enoughs.nd rfl (Or.inl rfl) (pe_lt (mk := fun c => lamF e_lam1 "enoughs.<locals>.<lambda>" (cellsFrom (s.heap.objs.size + 1) (defScope s_enoughs).names []) c) (b := lamB e_lam1) (js := [0, 1, 3, 4, 5, 6, 7]) c_least_true (e_vok1 c_rested c_with_guest) (fun _ => ⟨fun _ _ e => e, fun y hy => .inl ((by decide +kernel : ∀ y ∈ e_big, (defScope s_enoughs).names.lookup y = some .cell) y hy), fun _ _ _ e => e, rfl⟩) hr (by decide) (pa_cons pe_int (pa_cons (pe_glob (by rfl) h_GREATEST r_GREATEST) (pa_cons (pe_lam TB rfl TI.mem rfl TI.uniq (fun y hy e => .inl (cap_cell e_cap1 y hy e)) rfl) pa_nil)))))
      (pss_cons (ps_if (pt_cmpR (op_neD hr.units) (pe_calln (i := 7) (mk := fun c => NF.of e_told "told" "enoughs.<locals>.told" (cloFrom (cellsFrom (s.heap.objs.size + 1) (defScope s_enoughs).names []) (C8.fnScope e_told).names []) c) (js := [0, 3, 6, 1, 4]) (told_e c_rested c_with_guest) (fun _ => rfl) (fun ok => Caps.made ok (fun y hy e => .inl (cap_cell e_capT y hy e)) (cap_fr e_capT) rfl) hr (by decide) L2.pass0 rfl (by right; left; rfl) (pa_cons (pv 8) pa_nil)) (pv 2) (nomark _))
      (pss_one (ps_ret pe_non))
      pss_nil)
      (pss_cons (ps_if (pt_cmpR (op_eqD hr.units) (pe_calln (i := 7) (mk := fun c => NF.of e_told "told" "enoughs.<locals>.told" (cloFrom (cellsFrom (s.heap.objs.size + 1) (defScope s_enoughs).names []) (C8.fnScope e_told).names []) c) (js := [0, 3, 6, 1, 4]) (told_e c_rested c_with_guest) (fun _ => rfl) (fun ok => Caps.made ok (fun y hy e => .inl (cap_cell e_capT y hy e)) (cap_fr e_capT) rfl) hr (by decide) L2.pass0 rfl (by right; left; rfl) (pa_cons pe_non pa_nil)) (pv 2) (nomark _))
      (pss_one (ps_ret (pe_tup (pa_cons (pv 8) (pa_cons pe_non pa_nil)))))
      pss_nil)
      (pss_one (ps_ret (pe_tup (pa_cons (pv 8) (pa_cons (pe_op op_sub (pe_lt (mk := fun c => lamF e_lam2 "enoughs.<locals>.<lambda>" (cellsFrom (s.heap.objs.size + 1) (defScope s_enoughs).names []) c) (b := lamB e_lam2) (js := [0, 1, 3, 4, 5, 6, 7]) c_least_true (e_vok2 c_rested c_with_guest) (fun _ => ⟨fun _ _ e => e, fun y hy => .inl ((by decide +kernel : ∀ y ∈ e_big, (defScope s_enoughs).names.lookup y = some .cell) y hy), fun _ _ _ e => e, rfl⟩) hr (by decide) (pa_cons (pv 8) (pa_cons (pe_glob (by rfl) h_GREATEST r_GREATEST) (pa_cons (pe_lam TB rfl TI.mem rfl TI.uniq (fun y hy e => .inl (cap_cell e_cap2 y hy e)) rfl) pa_nil)))) pe_int) pa_nil)))))))))))), ?_⟩
    refine ⟨_, rfl, _, rfl, _, rfl, _, rfl, _, rfl, a, w, t, d, ns, p, fs, rfl, tb, ok, d0, d1, hw, hl, bd, hp, hf, fun H1 s1 => ?_⟩
    obtain ⟨xs, hx, hxl, hg⟩ := (tb.same s1).open
    have hgt := List.getElem?_eq_getElem hp
    obtain ⟨pg, ep, hpg⟩ := hg p _ hgt
    have gi : D.gs t p = t[p] := gs_at hgt
    have gok := ok.2.2 _ (List.getElem_mem hp)
    generalize t[p] = g at hgt hpg gi gok
    obtain ⟨c0, o⟩ := g
    have hdue := List.getElem?_eq_getElem (show p < ns.length by omega)
    generalize ns[p] = due at hdue
    have hw1 := (Same.evn s1).sql hw
    refine ⟨_, rfl, _, rfl, w, _, _, _, rfl, rfl, hw1, atI_nat (map_at hdue), _, rfl, _, rfl, a, xs, _, _, rfl, rfl, hx, atI_nat ep, pg, _, _, _, rfl, rfl, hpg, rfl, by show 2 ≤ sizeLine; decide, fun u hu => ⟨u, _, rfl, SqT.of upd_same, rfl, _, _, rfl, _, _, rfl, rfl, ?_⟩⟩
    have s2 := same_upd (o := .tup [.int due, .int c0]) hu
    have s12 := Same.trans s1 s2
    -- def told
    refine nx_mk ⟨Same.tabs s12 hT, fun ft ct H3 x1 x2 hT3 nf hft hct => ?_⟩
    have e3 : EvN H H3 := (Same.evn s12).trans ⟨x1, x2⟩
    have kt : KnN ft (e_toldF (s.heap.objs.size + 1) ct) H3 := ⟨hft, hct⟩
    have tb3 := tb.evn e3
    have c00 : 0 ≤ c0 := gok.1
    have oke : ∀ m, 0 ≤ m → m ≤ 1000000000000000000 → TabOk (t.set p (c0, some m)) := fun m h0 h1 => tabok_set ok ⟨gok.1, gok.2.1⟩ fun x hx => by cases hx; exact ⟨h0, h1⟩
    have okn : TabOk (t.set p (c0, none)) := tabok_set ok ⟨gok.1, gok.2.1⟩ fun x hx => by cases hx
    have hpos : 0 < t.length := ok.1
    have eqN : finL (t.set p (c0, none)) fs d = finL (t.set p (c0, some 1000000000000000000)) fs d := enough_none hp fs c00 d1
    have hadN : (Fin (t.set p (c0, none)) fs d).had p = (Fin (t.set p (c0, some 1000000000000000000)) fs d).had p := by
      have z1 : (finL (t.set p (c0, none)) fs d)[p]? = _ := finL_get (by rw [List.length_set]; exact hp)
      rw [eqN, finL_get (by rw [List.length_set]; exact hp)] at z1
      exact (Option.some.inj z1).symm
    -- told(None)[seat] < due
    refine nx_mk ⟨ft, ct, rfl, kt.1, kt.1, kt.2, a, t, fs, p, d, (c0, none), rfl, rfl, tb3, okn, hp, hf, d0, fun ln Hn sn nln hln => ?_⟩
    have en := e3.trans (Same.evn sn)
    have hTn := Same.tabs sn hT3
    have ktn := (Same.evn sn).knN kt
    refine ⟨_, rfl, ln, _, _, _, rfl, rfl, SqL.of hln, atI_nat (map_at (finL_get (by rw [List.length_set]; exact hp))), _, rfl, _, _, rfl, rfl, _, rfl, ?_⟩
    by_cases few : (Fin (t.set p (c0, none)) fs d).had p < due
    · rw [decide_eq_true few]
      refine iteT (q .non none Hn en hTn rfl ⟨fun e => ?_, fun m h0 h1 e => ?_⟩)
      · rw [gi] at e
        have := (had_at e hdue).2
        simp only at this
        omega
      · rw [gi] at e
        have h2 := (had_at e hdue).2
        have up := (enough_mono hpos hp fs d c0 h1).1
        simp only at h2
        omega
    rw [decide_eq_false few]
    refine iteF (next_mk ⟨hTn, fun f' c' H4 y1 y2 hT4 hf' hc' => ?_⟩)
    have e34 : EvN Hn H4 := ⟨y1, y2⟩
    have e4 : EvN H H4 := en.trans e34
    have kt4 := e34.knN ktn
    have tb4 := tb.evn e4
    refine ⟨0, 1000000000000000000, f', c', fun m => decide (due ≤ (Fin (t.set p (c0, some m)) fs d).had p), rfl, ⟨hf', hc'⟩, by decide, fun m H' Q' s' l0 l1 k => ?_, fun m m' l0 l1 l2 h => ?_, fun r H5 s5 r0 rG bad gd => ?_⟩
    · exact ⟨a, t, fs, p, d, (c0, some m), due, ft, ct, rfl, rfl, ⟨s' _ _ kt4.1, s' _ _ kt4.2⟩, tb4.same s', oke m l0 (by omega), hp, hf, d0, k⟩
    · have := of_decide_eq_true h
      have up := (enough_mono hpos hp fs d c0 l1).1
      exact decide_eq_true (by omega)
    have bad' : ∀ m, 0 ≤ m → m < r → ¬ -(Fin (t.set p (c0, some m)) fs d).had p ≤ -due := fun m h0 h1 => by
      have := of_decide_eq_false (bad m h0 h1)
      omega
    have hr' : -(Fin (t.set p (c0, some r)) fs d).had p ≤ -due := by
      rcases Int.lt_or_le r 1000000000000000000 with z | z
      · have := of_decide_eq_true (gd r (Int.le_refl _) z)
        omega
      · have : r = 1000000000000000000 := by omega
        rw [this]
        omega
    have S := D.stretch (F := fun e => finL (t.set p (c0, some e)) fs d) (h := fun e => -(Fin (t.set p (c0, some e)) fs d).had p) (s := ns) (due := -due) (G := 1000000000000000000) (fun e e' h0 h1 h2 => by
      have m := enough_mono hpos hp fs d c0 h1
      exact ⟨by have := m.1; omega, fun z => m.2 (by omega)⟩) (fun e h0 h1 z => by have := (had_at z hdue).2; omega) r0 rG bad' hr'
    have e45 := Same.evn s5
    have e5 := e4.trans e45
    have kt5 := e45.knN kt4
    have tb5 := tb.evn e5
    have hT5 := Same.tabs s5 hT4
    -- told(least)
    refine nx_mk ⟨ft, ct, rfl, kt5.1, _, rfl, kt5.1, kt5.2, a, t, fs, p, d, (c0, some r), rfl, rfl, tb5, oke r r0 rG, hp, hf, d0, fun l H6 s6 nl hl6 => ⟨_, rfl, ?_⟩⟩
    have e6 := e5.trans (Same.evn s6)
    have hT6 := Same.tabs s6 hT5
    have kt6 := (Same.evn s6).knN kt5
    refine ne_ints (SqL.of hl6) (e6.sql hw) ⟨_, rfl, ?_⟩
    by_cases eq : finL (t.set p (c0, some r)) fs d ≠ ns
    · rw [decide_eq_false eq]
      exact iteT (q .non none H6 e6 hT6 rfl ⟨by rw [gi]; show finL (t.set p (c0, none)) fs d ≠ ns; rw [eqN]; exact S.1 eq _ (by decide) (Int.le_refl _), fun m h0 h1 => by rw [gi]; exact S.1 eq m h0 h1⟩)
    have eq := Decidable.of_not_not eq
    rw [decide_eq_true eq]
    refine iteF ?_
    -- told(None)
    refine next_mk ⟨ft, ct, rfl, kt6.1, kt6.1, kt6.2, a, t, fs, p, d, (c0, none), rfl, rfl, tb.evn e6, okn, hp, hf, d0, fun l7 H7 s7 nl7 hl7 => ⟨_, rfl, ?_⟩⟩
    have e7 := e6.trans (Same.evn s7)
    have hT7 := Same.tabs s7 hT6
    have kt7 := (Same.evn s7).knN kt6
    refine eq_ints (SqL.of hl7) (e7.sql hw) ⟨_, rfl, ?_⟩
    by_cases eqG : finL (t.set p (c0, none)) fs d = ns
    · rw [decide_eq_true eqG]
      refine iteT ⟨_, rfl, by show 2 ≤ sizeLine; decide, fun r9 hr9 => ?_⟩
      have s9 := same_upd (o := .tup [.int r, .non]) hr9
      refine q (.ref r9) (some (r, none)) _ (e7.trans (Same.evn s9)) (Same.tabs s9 hT7) ⟨r9, rfl, SqT.of upd_same⟩ ⟨r0, rG, fun m h0 h1 => ?_, by rw [gi]; exact ⟨fun _ => eqG, fun _ => rfl⟩, fun h eh => by cases eh⟩
      rw [gi]
      exact (S.2.1 eq (eqN.symm.trans eqG) m h0 h1).trans ⟨fun z => ⟨z.1, fun h eh => by cases eh⟩, fun z => ⟨z.1, h1⟩⟩
    have eqG' : finL (t.set p (c0, some 1000000000000000000)) fs d ≠ ns := fun z => eqG (eqN.trans z)
    rw [decide_eq_false eqG]
    refine iteF (next_mk ⟨_, rfl, _, rfl, hT7, fun f2 c2 H8 z1 z2 hT8 hf2 hc2 => ?_⟩)
    have e78 : EvN H7 H8 := ⟨z1, z2⟩
    have e8 := e7.trans e78
    have kt8 := e78.knN kt7
    have tb8 := tb.evn e8
    refine ⟨r, 1000000000000000000, f2, c2, fun m => decide (due < (Fin (t.set p (c0, some m)) fs d).had p), rfl, ⟨hf2, hc2⟩, rG, fun m H' Q' s' l0 l1 k => ?_, fun m m' l0 l1 l2 h => ?_, fun r2 H9 s9 l1 l2 bad2 gd2 => ⟨_, _, rfl, rfl, by show 2 ≤ sizeLine; decide, fun r9 hr9 => ?_⟩⟩
    · exact ⟨a, t, fs, p, d, (c0, some m), due, ft, ct, rfl, rfl, ⟨s' _ _ kt8.1, s' _ _ kt8.2⟩, tb8.same s', oke m (by omega) (by omega), hp, hf, d0, k⟩
    · have := of_decide_eq_true h
      have up := (enough_mono hpos hp fs d c0 l1).1
      exact decide_eq_true (by omega)
    have s10 := same_upd (o := .tup [.int r, .int (r2 - 1)]) hr9
    obtain ⟨b1, b2, b3⟩ := S.2.2 eq eqG' r2 l1 l2 (fun m h0 h1 => by have := of_decide_eq_false (bad2 m h0 h1); omega) (fun m h0 h1 => by have := of_decide_eq_true (gd2 m h0 h1); omega)
    refine q (.ref r9) (some (r, some (r2 - 1))) _ ((e8.trans (Same.evn s9)).trans (Same.evn s10)) (Same.tabs s10 (Same.tabs s9 hT8)) ⟨r9, rfl, SqT.of upd_same⟩ ⟨r0, rG, fun m h0 h1 => ?_, by rw [gi]; exact ⟨fun z => (by cases z), fun z => absurd z eqG⟩, fun h eh => by cases eh; exact ⟨b1, b2⟩⟩
    rw [gi]
    exact (b3 m h0 h1).trans ⟨fun z => ⟨z.1, fun h eh => by cases eh; exact z.2⟩, fun z => ⟨z.1, z.2 _ rfl⟩⟩
end
end Lp
namespace Lp
open PySem PySem.Spec PyProof.Rows L2 LamX NdefX
def spLawT (K : PySem.W.Frag) (T : List NTab) : Sp := fun vs H Q _ => ∃ (a : Addr) (ns : List Int), vs = [.ref a] ∧ SqL K H a (ns.map V.int) ∧ ns.length ≤ 63 ∧ TabsN T H ∧ ∀ H', Q (.bl true) H'
/-- a constant ahead of other arguments -/
theorem argC {σ : L2.St} {H : Hp} {v : V} {t : TA} {k : List V → Hp → Prop} (h : t σ H fun xs H1 => k (v :: xs) H1) : tCons (tC v) t σ H k := h
theorem EvN.tabs_evw {H H' : Hp} (e : EvN H H') : Evw H H' := e.w
theorem scal_oo (o o' : Option Int) : scal (optV o) (optV o') = true := by
  cases o <;> cases o' <;> rfl
theorem optV_inj {o o' : Option Int} (h : optV o = optV o') : o = o' := by
  cases o <;> cases o' <;> cases h <;> rfl
theorem all_unique {t : List Guest} {f : Nat} {ns : List Int} {lo : Int} (A : AllO t f ns (some lo)) {o : Option Int} (B : AllO t f ns o) : o = some lo := by
  cases o with
  | none =>
    obtain ⟨i, m, e, h1, h2, h3⟩ := B
    have := (A.2.1 i m h1).1 e h2
    omega
  | some r =>
    have h1 := all_least A B.1 fun i m h => (B.2.1 i m h).2
    have h2 := all_least B A.1 fun i m h => (A.2.1 i m h).2
    rw [show r = lo by omega]
end Lp
namespace Lp
open PySem PySem.Spec PyProof.Rows L2
/-- a statement that goes on in the end -/
theorem seqS {A C : TS} {D : Ends} {σ : L2.St} {H : Hp} (h : ∀ D' : Ends, (∀ H', Same H H' → D'.nx σ H') → A D' σ H) (q : ∀ H', Same H H' → C D σ H') : tSeq A C D σ H := h _ q
/-- «o is not None and d > o», which is false -/
theorem gt_opt {σ : L2.St} {H : Hp} {i j : Nat} {o : Option Int} {d : Int} {Q : Bool → Hp → Prop} (h7 : σ[j]? = some (some (optV o))) (h4 : σ[i]? = some (some (.int d))) (le : ∀ h, o = some h → d ≤ h) (q : Q false H) :
    tAnd (tTest (tOp (fun x y H Q => y = .non ∧ Q (.bl (!decide (x = .non))) H) (tVar j) (tC .non))) (tTest (tOp (rI0 fun i j => .bl (decide (j < i))) (tVar i) (tVar j))) σ H Q := by
  cases o with
  | none => exact ⟨_, h7, rfl, _, rfl, iteF q⟩
  | some h =>
    refine ⟨_, h7, rfl, _, rfl, iteT ⟨_, h4, _, h7, _, _, rfl, rfl, _, rfl, ?_⟩⟩
    rw [decide_eq_false (show ¬ h < d by have := le h rfl; omega)]
    exact q
end Lp
namespace Lp
open PySem PySem.Spec PyProof.Rows L2
/-- short + [enough] * int(enough is not None and enough < one) -/
theorem short_mk {H : Hp} {σ : L2.St} {sh : Addr} {rs : List Int} {o : Option Int} {m : Int} {Q : VK} (h11 : σ[11]? = some (some (.ref sh))) (h13 : σ[13]? = some (some (optV o))) (h9 : σ[9]? = some (some (.int m))) (hs : H sh = some (.lst (rs.map V.int))) (hl : rs.length ≤ 8)
    (q : ∀ (r : Addr) (H' : Hp) (us : List Int), Same H H' → H' r = some (.lst (us.map V.int)) → us.length ≤ rs.length + 1 → (us = [] ↔ rs = [] ∧ ∀ e, o = some e → m ≤ e) → Q (.ref r) H') :
    tOp rCat (tVar 11) (tOp rRep (tLst (tCons (tVar 13) tNil)) (tCB (fun xs H Q => (∃ i, xs = [V.int i] ∧ Q (V.int i) H) ∨ ∃ k, xs = [V.bl k] ∧ Q (V.int (if k = true then 1 else 0)) H)
      (tCons (tAndV (tOp (fun x y H Q => y = V.non ∧ Q (V.bl !decide (x = V.non)) H) (tVar 13) (tC V.non)) (tOp (rI0 fun i j => V.bl (decide (i < j))) (tVar 13) (tVar 9))) tNil))) σ H Q := by
  have zero : ∀ (x : V) (p : Addr), H p = none → (∀ e, o = some e → m ≤ e) → rRep (.ref p) (.int 0) (upd H p (.lst [x])) fun y H2 => rCat (.ref sh) y H2 Q := fun x p hp no => by
    have s1 := same_upd (o := .lst [x]) hp
    refine rep_list upd_same (Int.le_refl 0) (by decide) fun r H1 s2 hr => ?_
    have hr' : H1 r = some (.lst (([] : List Int).map V.int)) := hr
    refine cat_list (s2 _ _ (s1 _ _ hs)) hr' (by rw [List.length_map]; show _ + 0 ≤ 1000; omega) fun r2 H2 s3 hr2 => ?_
    refine q r2 H2 rs (Same.trans (Same.trans s1 s2) s3) (by rw [hr2, List.map_nil, List.append_nil]) (by omega) ⟨fun z => ⟨z, no⟩, fun z => z.1⟩
  cases o with
  | none => exact ⟨_, h11, _, h13, by show 1 ≤ sizeLine; decide, fun p hp => ⟨_, h13, rfl, _, rfl, iteF (.inr ⟨_, rfl, zero _ p hp (fun e he => by cases he)⟩)⟩⟩
  | some e =>
    refine ⟨_, h11, _, h13, by show 1 ≤ sizeLine; decide, fun p hp => ⟨_, h13, rfl, _, rfl, iteT ⟨_, h13, _, h9, _, _, rfl, rfl, .inr ⟨_, rfl, ?_⟩⟩⟩⟩
    by_cases lt : e < m
    · rw [decide_eq_true lt]
      have s1 := same_upd (o := .lst [.int e]) hp
      refine rep_list upd_same (by decide) (by decide) fun r H1 s2 hr => ?_
      have hr' : H1 r = some (.lst (([e] : List Int).map V.int)) := hr
      refine cat_list (s2 _ _ (s1 _ _ hs)) hr' (by rw [List.length_map]; show _ + 1 ≤ 1000; omega) fun r2 H2 s3 hr2 => ?_
      refine q r2 H2 (rs ++ [e]) (Same.trans (Same.trans s1 s2) s3) (by rw [hr2, List.map_append]) (by rw [List.length_append]; exact Nat.le_refl _) ⟨fun z => ?_, fun z => ?_⟩
      · exact absurd z (by simp)
      · have := z.2 e rfl
        omega
    · rw [decide_eq_false lt]
      exact zero _ p hp fun e' he => by cases he; omega
end Lp
namespace Lp
open PySem PySem.Spec PyProof.Rows L2
theorem seqP {A C : TS} {D : Ends} {σ : L2.St} {H : Hp} (R : L2.St → Hp → Prop) (h : ∀ D' : Ends, (∀ σ' H', R σ' H' → D'.nx σ' H') → A D' σ H) (q : ∀ σ' H', R σ' H' → C D σ' H') : tSeq A C D σ H := h _ q
/-- «if T: ..» where T is false, whatever it lays -/
theorem guardR {T : TT} {A B : TS} {D : Ends} {σ : L2.St} {H : Hp} (R : Hp → Prop) (hx : ∀ Q' : Bool → Hp → Prop, (∀ H', R H' → Q' false H') → T σ H Q') (hq : ∀ H', R H' → B D σ H') : tIfS T A B D σ H :=
  hx _ fun H' s => iteF (hq H' s)
theorem guardRS {T : TT} {A B C : TS} {D : Ends} {σ : L2.St} {H : Hp} (R : Hp → Prop) (hx : ∀ Q' : Bool → Hp → Prop, (∀ H', R H' → Q' false H') → T σ H Q') (hq : ∀ H', R H' → B { D with nx := C D } σ H') : tSeq (tIfS T A B) C D σ H :=
  hx _ fun H' s => iteF (hq H' s)
end Lp
namespace Lp
open PySem PySem.Spec PyProof.Rows L2
/-- the constants of pairs.py -/
structure Smalls (mg : Str → Option Value) : Prop where
  small : ∃ v, mg "SMALL" = some v ∧ RelV (.int 30) v
  far : ∃ v, mg "FAR" = some v ∧ RelV (.int 300) v
def SmallT (t : List Guest) : Prop := ∀ g ∈ t, g.1 ≤ 30 ∧ ∀ m, g.2 = some m → m ≤ 30
/-- the least dish below 300 at which they differ, or None -/
def PartAt (t u : List Guest) (v : V) : Prop :=
  (v = .non ∧ ∀ d : Nat, d < 300 → finL t 0 (d : Int) = finL u 0 (d : Int)) ∨
  ∃ d : Nat, d < 300 ∧ v = .int (d : Int) ∧ finL t 0 (d : Int) ≠ finL u 0 (d : Int) ∧ ∀ d' : Nat, d' < d → finL t 0 (d' : Int) = finL u 0 (d' : Int)
section
variable {P : Program} {w : World} {K : PySem.W.Frag} {mg : Str → Option Value} {base : Heap}
def spIsSmall (K : PySem.W.Frag) : Sp := fun vs H Q _ => ∃ (a : Addr) (t : List Guest), vs = [.ref a] ∧ TableAt K H a t ∧ SmallT t ∧ Q (.bl true) H
theorem sc_is_small : FnScope ["table", "courtesy", "enough"] ["table"] (defScope s_is_small) := ⟨rfl, rfl, rfl, by decide +kernel, rfl, by decide +kernel, by decide +kernel⟩
theorem ok_is_small {f : Addr} {fd : FuncData} (F : L2.Fun K "is_small" "is_small" s_is_small f fd) (S : Smalls mg) : FnOk P w K mg base L2.CX0 1 f fd ["table"] (spIsSmall K) := by
  refine F.ok sc_is_small (fun vs H Q E h => ?_) (fun cdv A outer s H vs Q E hr h => ?_)
  · obtain ⟨a, t, rfl, _⟩ := h
    rfl
  · obtain ⟨a, t, rfl, tb, sm, k⟩ := h
    obtain ⟨gv, h_SMALL, r_SMALL⟩ := S.small
    obtain ⟨xs, hx, hl, hg⟩ := tb.open
    refine ⟨_, (pss_cons (ps_for PassesOwn.never rfl (pi_tup (pv 0)) (pg_tup (by rfl) (pgs_cons (pg_name (i := 1) sc_is_small.nd rfl (Or.inl rfl)) (pgs_cons (pg_name (i := 2) sc_is_small.nd rfl (Or.inl rfl)) pgs_nil)))
      (pss_one (ps_if (PW.pt (pw_or (pt_cmpR op_gt (pv 1) (pe_glob (by rfl) h_SMALL r_SMALL) (nomark _)) (pw_or1 (PW.pt (pw_and (pt_cmpR op_notN (pv 2) pe_non (nomark _)) (pw_and1 (pt_cmpR op_gt (pv 2) (pe_glob (by rfl) h_SMALL r_SMALL) (nomark _))))))))
      (pss_one (ps_ret pe_bl))
      pss_nil)))
      (pss_one (ps_ret pe_bl))), ?_⟩
    refine ⟨_, rfl, a, rfl, ⟨_, hx⟩, ?_⟩
    refine for_tup (K := K) (a := a) (xs := xs) (fun j σ H' => ∃ (v1 v2 : Option V), σ = [some (.ref a), v1, v2] ∧ H' = H) ⟨none, none, rfl, rfl⟩ ?_ ?_ ?_
    · rintro j σ H' hj ⟨v1, v2, rfl, rfl⟩
      exact hx
    · rintro j x σ H' hj ⟨v1, v2, rfl, rfl⟩
      have jt : j < t.length := by rw [← hl]; exact (List.getElem?_eq_some_iff.mp hj).1
      have hgt := List.getElem?_eq_getElem jt
      obtain ⟨p, e1, e2⟩ := hg j _ hgt
      have sg := sm _ (List.mem_of_getElem? hgt)
      generalize t[j] = g at e2 sg
      rw [e1] at hj
      cases hj
      obtain ⟨c, o⟩ := g
      refine ⟨p, _, rfl, e2, rfl, _, _, rfl, _, _, rfl, rfl, ?_⟩
      refine ⟨_, rfl, _, _, rfl, rfl, _, rfl, ?_⟩
      rw [decide_eq_false (show ¬ 30 < c by have := sg.1; simp only at this; omega)]
      refine iteF ⟨_, rfl, rfl, _, rfl, ?_⟩
      cases o with
      | none => exact iteF (iteF ⟨_, _, rfl, rfl⟩)
      | some m =>
        refine iteT ⟨_, rfl, _, _, rfl, rfl, _, rfl, ?_⟩
        rw [decide_eq_false (show ¬ 30 < m by have := sg.2 m rfl; omega)]
        exact iteF ⟨_, _, rfl, rfl⟩
    · rintro σ H' ⟨v1, v2, rfl, rfl⟩
      exact k
def spParted (K : PySem.W.Frag) : Sp := fun vs H Q _ => ∃ (a b : Addr) (t u : List Guest), vs = [.ref a, .ref b] ∧ TableAt K H a t ∧ TableAt K H b u ∧ TabOk t ∧ TabOk u ∧ t.length = u.length ∧ SmallT t ∧ SmallT u ∧ ∀ (v : V) (H' : Hp), Same H H' → PartAt t u v → Q v H'
theorem sc_parted : FnScope ["one", "other", "dish"] ["one", "other"] (defScope s_parted) := ⟨rfl, rfl, rfl, by decide +kernel, rfl, by decide +kernel, by decide +kernel⟩
theorem ok_parted {f : Addr} {fd : FuncData} (F : L2.Fun K "parted" "parted" s_parted f fd) (B : Bls mg) (S : Smalls mg) (c_need_table : Cal P w K mg base 4 "need_table" (spNeedTable K)) (c_is_small : Cal P w K mg base 1 "is_small" (spIsSmall K)) (c_rested : Cal P w K mg base 4 "rested" (spRested K)) : FnOk P w K mg base L2.CX0 5 f fd ["one", "other"] (spParted K) := by
  refine F.ok sc_parted (fun vs H Q E h => ?_) (fun cdv A outer s H vs Q E hr h => ?_)
  · obtain ⟨a, b, t, u, rfl, _⟩ := h
    rfl
  · obtain ⟨a, b, t, u, rfl, tb, ub, ok, oku, tu, sm, smu, k⟩ := h
    obtain ⟨fv, h_FAR, r_FAR⟩ := S.far
    refine ⟨_, (pss_cons (ps_expr (pe_g c_need_table hr (pa_cons (pv 0) pa_nil)))
      (pss_cons (ps_expr (pe_g c_need_table hr (pa_cons (pv 1) pa_nil)))
      (pss_cons (ps_if (PW.pt (pw_or (pt_cmpR op_ne (pe_len B (pv 0)) (pe_len B (pv 1)) (nomark _)) (pw_or (pt_not (pt_val (pe_g c_is_small hr (pa_cons (pv 0) pa_nil)))) (pw_or1 (pt_not (pt_val (pe_g c_is_small hr (pa_cons (pv 1) pa_nil))))))))
      (pss_one ps_never)
      pss_nil)
      (pss_cons (ps_for PassesOwn.never rfl (pi_range1 (by rfl) B.range (pa_cons (pe_glob (by rfl) h_FAR r_FAR) pa_nil)) (pg_name (i := 2) sc_parted.nd rfl (Or.inl rfl))
      (pss_one (ps_if (pt_cmpR (op_neD hr.units) (pe_ix ix_tup (pe_g c_rested hr (pa_cons (pv 0) (pa_cons (pv 2) (pa_cons pe_int pa_nil)))) pe_int (fun _ _ => rfl)) (pe_ix ix_tup (pe_g c_rested hr (pa_cons (pv 1) (pa_cons (pv 2) (pa_cons pe_int pa_nil)))) pe_int (fun _ _ => rfl)) (nomark _))
      (pss_one (ps_ret (pv 2)))
      pss_nil)))
      (pss_one (ps_ret pe_non)))))), ?_⟩
    refine ⟨_, rfl, a, t, rfl, tb, ok, fun H1 s1 => ?_⟩
    refine ⟨_, rfl, b, u, rfl, ub.same s1, oku, fun H2 s2 => ?_⟩
    have s12 := Same.trans s1 s2
    obtain ⟨xs, hx, hl, _⟩ := (tb.same s12).open
    obtain ⟨ys, hy, hly, _⟩ := (ub.same s12).open
    refine ⟨_, rfl, a, xs, rfl, .inr hx, _, rfl, b, ys, rfl, .inr hy, rfl, _, rfl, ?_⟩
    rw [show ys.length = xs.length by omega]
    refine if_ne ?_
    refine ⟨_, rfl, a, t, rfl, tb.same s12, sm, _, rfl, iteF ?_⟩
    refine ⟨_, rfl, b, u, rfl, ub.same s12, smu, _, rfl, iteF ?_⟩
    refine ⟨_, rfl, by decide, by decide, ?_⟩
    refine for_range0 (fun j σ H' => ∃ (v2 : Option V), σ = [some (.ref a), some (.ref b), v2] ∧ Same H H' ∧ ∀ d : Nat, d < j → finL t 0 (d : Int) = finL u 0 (d : Int)) ⟨none, rfl, s12, fun d h => absurd h (Nat.not_lt_zero _)⟩ ?_ ?_
    · rintro j σ H3 hj ⟨v2, rfl, s3, all⟩
      have j300 : j < 300 := hj
      refine ⟨_, rfl, _, rfl, arg1 ⟨a, t, 0, j, rfl, tb.same s3, ok, ok.1, by omega, fun q l H4 s4 nl hq hl4 => ⟨q, _, _, _, rfl, rfl, SqT.of hq, rfl, ?_⟩⟩⟩
      have s34 := Same.trans s3 s4
      refine ⟨_, rfl, _, rfl, arg1 ⟨b, u, 0, j, rfl, ub.same s34, oku, oku.1, by omega, fun q' l' H5 s5 nl' hq' hl5 => ⟨q', _, _, _, rfl, rfl, SqT.of hq', rfl, ?_⟩⟩⟩
      have s35 := Same.trans s34 s5
      refine ne_ints (SqL.of (s5 _ _ hl4)) (SqL.of hl5) ⟨_, rfl, ?_⟩
      by_cases e : finL t 0 (j : Int) = finL u 0 (j : Int)
      · rw [decide_eq_true e]
        refine iteF ⟨_, rfl, s35, fun d hd => ?_⟩
        by_cases z : d = j
        · rw [z]; exact e
        · exact all d (by omega)
      · rw [decide_eq_false e]
        exact iteT ⟨_, rfl, k _ _ s35 (.inr ⟨j, j300, rfl, e, all⟩)⟩
    · rintro σ H3 ⟨v2, rfl, s3, all⟩
      exact k _ _ s3 (.inl ⟨rfl, all⟩)
end
end Lp
namespace Lp
open PySem PySem.Spec PyProof.Rows L2
section
variable {K : PySem.W.Frag} {H : Hp} {Q : VK}
theorem arg7 {c : V} {t : TA} {σ : L2.St} {H : Hp} {k : List V → Hp → Prop} (h : t σ H fun xs H' => k (c :: xs) H') : tCons (tC c) t σ H k := h
theorem part_mk {te : TE} {σ : L2.St} {H : Hp} {k : Option Int → Hp → Prop} (h : te σ H fun x H1 => ∃ i, x = .int i ∧ k (some i) H1) : tPart te σ H k := h
/-- t[lo:] -/
theorem cut_from {a : Addr} {xs : List V} {p : Nat} (h : SqT K H a xs) (q : ∀ (r : Addr) (H' : Hp), Same H H' → SqT K H' r (xs.drop p) → Q (.ref r) H') : rSlA K (.ref a) (some (p : Int)) none H Q := by
  refine ⟨a, xs, rfl, h, fun w => q a H (Same.refl _) ?_, fun _ u hu => q u _ (same_upd hu) (by rw [← cut_drop]; exact SqT.of upd_same)⟩
  rw [HT.sIx_nat] at w
  by_cases c : p = 0
  · rw [c]; exact h
  · have : xs.length = 0 := by omega
    have e : xs = [] := List.eq_nil_of_length_eq_zero this
    rw [e, List.drop_nil, ← e]
    exact h
/-- t[:hi] -/
theorem cut_to {a : Addr} {xs : List V} {p : Nat} (h : SqT K H a xs) (q : ∀ (r : Addr) (H' : Hp), Same H H' → SqT K H' r (xs.take p) → Q (.ref r) H') : rSlA K (.ref a) none (some (p : Int)) H Q := by
  refine ⟨a, xs, rfl, h, fun w => q a H (Same.refl _) ?_, fun _ u hu => q u _ (same_upd hu) (by rw [← cut_take]; exact SqT.of upd_same)⟩
  rw [HT.sIx_nat] at w
  rw [List.take_of_length_le (by omega)]
  exact h
end
end Lp
namespace Lp
open PySem PySem.Spec PyProof.Rows L2
/-! ### t[::-1], t a tuple -/
theorem back_pick (xs : Array Value) : ((List.range xs.size).filterMap fun (m : Nat) => xs[(((xs.size : Int) - 1) + (m : Int) * (-1)).toNat]?) = xs.toList.reverse := by
  have key : ∀ k, k ≤ xs.size → ((List.range k).filterMap fun (m : Nat) => xs[(((xs.size : Int) - 1) + (m : Int) * (-1)).toNat]?) = (List.range k).map fun m => xs.toList.getD (xs.size - 1 - m) .none := by
    intro k
    induction k with
    | zero => intro _; rfl
    | succ k ih =>
      intro hk
      rw [List.range_succ, List.filterMap_append, List.map_append, ih (by omega)]
      congr 1
      have e : xs[(((xs.size : Int) - 1) + (k : Int) * (-1)).toNat]? = some (xs.toList.getD (xs.size - 1 - k) .none) := by
        rw [show (((xs.size : Int) - 1) + (k : Int) * (-1)).toNat = xs.size - 1 - k by omega, ← Array.getElem?_toList, List.getD_eq_getElem?_getD, List.getElem?_eq_getElem (by rw [Array.length_toList]; omega)]
        rfl
      rw [List.filterMap_cons_some (f := fun (m : Nat) => xs[(((xs.size : Int) - 1) + (m : Int) * (-1)).toNat]?) (a := k) e]
      rfl
  rw [key xs.size (Nat.le_refl _)]
  apply List.ext_getElem?
  intro i
  by_cases hi : i < xs.size
  · rw [List.getElem?_map, List.getElem?_range hi, List.getElem?_reverse (by rw [Array.length_toList]; exact hi), Array.length_toList]
    show some (xs.toList.getD (xs.size - 1 - i) .none) = _
    rw [List.getD_eq_getElem?_getD, List.getElem?_eq_getElem (by rw [Array.length_toList]; omega)]
    rfl
  · rw [List.getElem?_eq_none (by simp; omega), List.getElem?_eq_none (by simp; omega)]
theorem adjust_back (n : Nat) : Builtin.Slice.sliceAdjust none none (-1) (n : Int) = ((n : Int) - 1, -1) := by
  unfold Builtin.Slice.sliceAdjust
  rfl
theorem places_back (n : Nat) : Builtin.Slice.slicePlaces ((n : Int) - 1) (-1) (-1) = n := by
  unfold Builtin.Slice.slicePlaces
  rw [if_neg (by decide)]
  by_cases h : (n : Int) - 1 > -1
  · rw [if_pos h, show (n : Int) - 1 - -1 - 1 = (n : Int) - 1 by omega, show -(-1 : Int) = 1 from rfl, Int.ediv_one]
    omega
  · rw [if_neg h]
    omega
section
variable {prog : Program} {w : World} {A : Around} {E : Value → Shared → Prop} {s : Shared}
theorem applied_back {sl : Addr} {t : Tok} {n : Nat} {Q : Int × Int × Nat → Shared → Prop} (hs : s.heap.IsSliceOf sl .none .none (.int (-1) t)) (h : Q ((n : Int) - 1, -1, n) s) :
    wpAny (model prog w) A (Builtin.Slice.sliceApplied (.ref sl) (pure (n : Int))) Q E s := by
  obtain ⟨o, e1, e2, e3⟩ := hs
  unfold Builtin.Slice.sliceApplied
  unfold Builtin.Slice.sliceFields
  refine wpAny_bind (wpAny_bind (wpAny_field e1 e3 (x := .none) rfl ?_))
  refine wpAny_bind (wpAny_field e1 e3 (x := .none) rfl ?_)
  refine wpAny_bind (wpAny_field e1 e3 (x := .int (-1) t) rfl ?_)
  refine wpAny_pure ?_
  refine wpAny_bind (slicePart_int ?_)
  show wpAny _ _ (if ((-1 : Int) == 0) = true then _ else _) _ _ s
  rw [if_neg (show ¬ ((-1 : Int) == 0) = true by decide)]
  refine wpAny_bind (slicePart_none (wpAny_bind (slicePart_none (wpAny_bind (wpAny_pure ?_)))))
  show wpAny _ _ (match Builtin.Slice.sliceAdjust none none (-1) (n : Int) with | (lo, hi) => pure (lo, (-1 : Int), Builtin.Slice.slicePlaces lo hi (-1))) _ _ s
  rw [adjust_back]
  show wpAny _ _ (pure ((n : Int) - 1, (-1 : Int), Builtin.Slice.slicePlaces ((n : Int) - 1) (-1) (-1))) _ _ s
  rw [places_back]
  exact wpAny_pure h
theorem item_back {t sl : Addr} {its : Array Value} {k : Tok} {Q : Value → Shared → Prop} (ht : IsTup s.heap t its) (hs : s.heap.IsSliceOf sl .none .none (.int (-1) k)) (hz : its.size ≤ sizeLine)
    (h : Q (.ref s.heap.objs.size) { s with heap := s.heap.push { cls := .type "tuple", data := .seq its.toList.reverse.toArray } }) : wpAny (model prog w) A (getItem (.ref t) (.ref sl)) Q E s := by
  have hz2 : sizeOk (.seq its.toList.reverse.toArray) := by
    show its.toList.reverse.toArray.size ≤ sizeLine
    rw [List.size_toArray, List.length_reverse, Array.length_toList]
    exact hz
  have hT : s.TypeIs (.ref sl) "slice" := by obtain ⟨o, e1, e2, _⟩ := hs; exact ⟨o, e1, e2⟩
  unfold getItem
  refine wpAny_holding ?_
  refine wpAny_bind (wpAny_sequenceKey ht.typeIs (by decide) ?_)
  refine wpAny_bind (wpAny_callSpecial?_slot (name := Str.ofString "__getitem__") ht.typeIs slot_tuple_getitem (wpAny_call_entry slot_tuple_getitem ht.typeIs entry_tuple_getitem ?_ (args_tuple_getitem _ _)))
  show wpAny _ _ (Builtin.Tuple.tupleItemsOf (.ref t) >>= fun _ => _) _ _ s
  refine wpAny_bind (tupleItemsOf_ ht (wpAny_bind (wpAny_typeOf hT ?_)))
  rw [if_pos (show (Value.type "slice" == Value.type "slice") = true by decide)]
  refine wpAny_bind (applied_back hs ?_)
  show wpAny _ _ (if (((its.size : Int) - 1) == 0 && (-1 : Int) == 1 && its.size == its.size) = true then _ else _) _ _ s
  have no : ¬ (((its.size : Int) - 1) == 0 && (-1 : Int) == 1 && its.size == its.size) = true := by
    rw [show ((-1 : Int) == 1) = false from rfl, Bool.and_false, Bool.false_and]
    exact Bool.false_ne_true
  rw [if_neg no, back_pick]
  first
    | exact wpAny_bind (m := Builtin.Tuple.tupleExact _) (wpAny_newObj_type (wpAny_pure ⟨_, rfl, wpAny_pure h⟩) hz2)
    | exact wpAny_bind (m := Builtin.Tuple.tupleExact _) (wpAny_newObj_type (wpAny_bind (wpAny_pure (wpAny_pure ⟨_, rfl, wpAny_pure h⟩))) hz2)
    | exact wpAny_bind (wpAny_bind (m := Builtin.Tuple.tupleExact _) (wpAny_newObj_type (wpAny_pure (wpAny_pure ⟨_, rfl, wpAny_pure h⟩)) hz2))
    | exact wpAny_bind (wpAny_bind (m := Builtin.Tuple.tupleExact _) (wpAny_newObj_type (wpAny_pure ⟨_, rfl, wpAny_pure h⟩) hz2))
end
/-- t[::-1] -/
def tRevT (K : PySem.W.Frag) (te : TE) : TE := fun σ H Q => te σ H fun x H1 => ∃ a xs, x = .ref a ∧ SqT K H1 a xs ∧ ∀ (r : Addr) (H' : Hp), Same H1 H' → SqT K H' r xs.reverse → Q (.ref r) H'
theorem pe_revT {X : Cx} {e : Expr} {te : TE} {k : Nat} {p1 p2 p3 pos : Pos} (he : PE X e te) : PE X (.Subscript e (.Slice none none (some (.UnaryOp .USub (.Constant (.int 1) k p1) p2)) p3) pos) (tRevT X.K te) := by
  refine ⟨fun pins s σ H Q I h => Subscript_ (thn (he.run pins s σ H _ I h) fun v sA ⟨x, G, J, rx, a, xs, ex, hx, q⟩ => ?_)⟩
  subst ex
  cases rx
  have po : PO X (some (.UnaryOp .USub (.Constant (.int 1) k p1) p2)) (tPart (tUn (rU fun i => .int (-i)) (tC (.int 1)))) := po_some (pe_un un_neg pe_int)
  have nothing : ∀ {sN : Shared}, Inv X pins σ G sN → wpAny (model X.prog X.w) X.A (evalPart none X.env) (fun u s' => ∃ o H', Inv X pins σ H' s' ∧ IsPart u o ∧ o = none ∧ H' = G) X.xe sN := fun {sN} JN =>
    po_none.run pins sN σ G (fun o H' => o = none ∧ H' = G) JN ⟨rfl, rfl⟩
  refine wpAny_Slice (thn (nothing J) fun lo sB ⟨_, _, JB, plo, elo, eG⟩ => ?_)
  subst elo eG
  refine thn (nothing JB) fun up sC ⟨_, _, JC, pup, eup, eG⟩ => ?_
  subst eup eG
  refine thn (po.run pins sC σ _ (fun o H' => o = some (-1) ∧ H' = _) JC ⟨1, rfl, -1, rfl, rfl, rfl⟩) fun by_ sD ⟨_, _, JD, pby, eby, eG⟩ => ?_
  subst eby eG
  cases plo
  cases pup
  obtain ⟨tk, rfl⟩ : ∃ tk, by_ = .int (-1) tk := by
    cases pby with
    | int i t => exact ⟨t, rfl⟩
  have JS : Inv X pins σ _ { sD with heap := sD.heap.push { cls := .type "slice", data := .fields #[.none, .none, .int (-1) tk] } } := JD.kept (t' := sD.toks) fun b ob z => Heap.get?_push_of_some _ z
  obtain ⟨its, r, ht, hz⟩ := JS.tuple hx
  have hlen := r.length
  show wpAny (model X.prog X.w) X.A (subscriptTail e (.Slice none none (some (.UnaryOp .USub (.Constant (.int 1) k p1) p2)) p3) (.ref a) (.ref sD.heap.objs.size)) (EP X pins σ Q) X.xe _
  refine tail_any (ops := [.ref a, .ref sD.heap.objs.size]) ht.typeIs PyProof.Rows.slot_tuple_getitem.lookup ?_ (by with_unfolding_all rfl)
  refine item_back ht (Heap.IsSliceOf.new _ .none .none (.int (-1) tk)) (by rw [List.size_toArray, ← hlen]; exact hz) ?_
  refine ⟨.ref _, _, JS.laid (t' := sD.toks) (o := .tup xs.reverse) (fun b ob z => Heap.get?_push_of_some _ z) (Nat.le_refl _) ?_, rfl, q _ _ (same_upd (JS.hok.fresh (Nat.le_refl _))) (SqT.of upd_same)⟩
  exact ⟨by rw [List.length_reverse]; exact hz, _, r.reverse, IsTup.new _ _⟩
end Lp
namespace Lp
open PySem PySem.Spec PyProof.Rows L2
/-! ### defs that may raise -/
/-- the module's name x, a def that may raise -/
structure CalX (P : Program) (w : World) (K : PySem.W.Frag) (mg : Str → Option Value) (base : Heap) (k : Nat) (x : Str) (sp : Sp) : Prop where
  ex : ∃ (f : Addr) (fd : FuncData) (ps : List Str), FnOk P w K mg base (L2N.CX P w) k f fd ps sp ∧ mg x = some (.ref f) ∧ PySem.W.keepIn K (.ref f) = true ∧ Binds K fd ps []
/-- .. with the keyword-only «first» -/
structure CalXK (P : Program) (w : World) (K : PySem.W.Frag) (mg : Str → Option Value) (base : Heap) (k n : Nat) (x : Str) (sp : Sp) : Prop where
  ex : ∃ (f : Addr) (fd : FuncData) (ps : List Str), FnOk P w K mg base (L2N.CX P w) k f fd ps sp ∧ mg x = some (.ref f) ∧ PySem.W.keepIn K (.ref f) = true ∧ KBn K fd ps n (["first"] : List Str) (fun us ws => us ++ ws) (fun vs zs => vs ++ zs)
section
variable {P : Program} {w : World} {K : PySem.W.Frag} {mg : Str → Option Value} {base : Heap} {k : Nat} {f : Addr} {fd : FuncData} {ps : List Str} {sp sp1 sp2 : Sp}
/-- what raises nothing may be asked where something might be raised -/
theorem fn_up (F : FnOk P w K mg base L2.CX0 k f fd ps sp) : FnOk P w K mg base (L2N.CX P w) k f fd ps sp :=
  ⟨F.len, fun A outer s H args us vs Q E hr e0 b r h => codeAny_mono (F.run A outer s H args us vs Q E hr e0 b r h) fun r s' q => by
    cases r with
    | error e => exact (show False from q).elim
    | ok fl => cases fl <;> exact q⟩
theorem fn_or {CX : CXT} (F : FnOk P w K mg base CX k f fd ps sp1) (G : FnOk P w K mg base CX k f fd ps sp2) : FnOk P w K mg base CX k f fd ps (fun vs H Q E => sp1 vs H Q E ∨ sp2 vs H Q E) :=
  ⟨fun vs H Q E h => h.elim (F.len vs H Q E) (G.len vs H Q E), fun A outer s H args us vs Q E hr e0 b r h => h.elim (F.run A outer s H args us vs Q E hr e0 b r) (G.run A outer s H args us vs Q E hr e0 b r)⟩
/-- as Fun.ok, for a def that may raise -/
theorem ok_raise {x qual : Str} {st : Stmt} {N : List Str} (F : L2.Fun K x qual st f fd) (S : FnScope N ps (defScope st)) (len : ∀ vs H Q E, sp vs H Q E → vs.length = ps.length)
    (go : ∀ (cdv : Value) (A : Around) (outer : List Env) (s : Shared) (H : Hp) (vs : List V) (Q : VK) (E : XK), Room k (A.deeper (envOfC qual (defScope st) s.heap.objs.size f cdv)) → sp vs H Q E →
      ∃ t, PSs (cxOf (L2N.CX P w) P w K mg base N qual (defScope st) f cdv A outer s H E) (defBody st) t ∧ t { nx := fun _ H' => Q .non H', rt := Q } (L2.start N vs) H) : FnOk P w K mg base (L2N.CX P w) (k + 1) f fd ps sp := by
  obtain ⟨oc, od, kV, doc, pm, an, cdv, ct, osl, rfl, lk, hcd⟩ := F.ex
  exact fn_of lk hcd S len fun A outer s H vs Q E hr h => go cdv A outer s H vs Q E hr h
end
section
variable {X : Cx} {k j n : Nat} {x : Str} {sp : Sp} {E : XK} {p pos : Pos} {e : Expr} {es : List Expr} {kws : List Keyword} {t tk : TA}
abbrev Lets (X : Cx) (E : XK) : Prop := L2N.Takes X fun cls d _ H => E cls d H
theorem pass_let (q : Lets X E) : Passes (L2N.CX X.prog X.w) X E := L2N.passes_call q fun _ _ _ _ h => h
theorem pe_gX (c : CalX X.prog X.w X.K X.mg X.base k x sp) (hr : Room j X.A) (q : Lets X E) (ha : PA X (e :: es) t) (hk : k ≤ j := by decide) (hg : Gl X x := by rfl)
    (hdb : (x == ("__debug__" : Str)) = false := by decide) (he : starEach (e :: es) X.env = (false, eval e X.env) :: starEach es X.env := by rfl) (hpl : (backTo pos (starEach es X.env)).any (·.1) = false := by rfl) :
    PE X (.Call (.Name x p) (e :: es) [] pos) (tCall sp [] E t) := by
  obtain ⟨f, fd, ps, F, hm, kp, b⟩ := c.ex
  exact pe_call F (hr.mono hk) hg hm kp b .nil (pass_let q) ha hdb he hpl
theorem pe_gkX (c : CalXK X.prog X.w X.K X.mg X.base k n x sp) (hr : Room j X.A) (q : Lets X E) (ha : PA X (e :: es) t) (hkw : PK X kws tk) (hk : k ≤ j := by decide) (hg : Gl X x := by rfl)
    (hall : (backToKw pos (keywordEach kws X.env)).all (·.1.isSome) = true := by rfl) (hks : (backToKw pos (keywordEach kws X.env)).filterMap (·.1) = (["first"] : List Str) := by rfl)
    (hdb : (x == ("__debug__" : Str)) = false := by decide) (he : starEach (e :: es) X.env = (false, eval e X.env) :: starEach es X.env := by rfl)
    (hpl : ((backTo pos (starEach (e :: es) X.env)).any (·.1) || (backToKw pos (keywordEach kws X.env)).any (·.1.isNone)) = false := by rfl) :
    PE X (.Call (.Name x p) (e :: es) kws pos) (tCallN n 1 sp (fun vs zs => vs ++ zs) E t tk) := by
  obtain ⟨f, fd, ps, F, hm, kp, kb⟩ := c.ex
  exact pe_callN F (hr.mono hk) hg hm kp kb (pass_let q) ha hkw hall hks hdb he hpl
end
/-! ### the refusals -/
/-- an own class of error, without own __init__ -/
structure ErrC (K : PySem.W.Frag) (mg : Str → Option Value) (x : Str) (C : Addr) : Prop where
  made : PySem.W.excIn K C PySem.HandSPX.veTail "ValueError.__new__" = true
  gC : mg x = some (.ref C)
  kC : PySem.W.keepIn K (.ref C) = true
  sub : PySem.W.subIn K (.ref C) (.type "BaseException") = some true
  ty : PySem.W.typeIn K (.ref C) = some (.type "type")
theorem pmk_none {X : Cx} {x : Str} {C : Addr} {p pos : Pos} (R : ErrC X.K X.mg x C) (hg : Gl X x := by rfl) (hdb : (x == ("__debug__" : Str)) = false := by decide) :
    L2N.PMk X (.Call (.Name x p) [] [] pos) (fun _ H Q => Q (.ref C) none H) := fun pins s σ H Q I h => by
  refine wpAny_Call_Name_kw (ld_glob I hg R.gC ?_ hdb)
  refine PySem.W.callWith_K0 I.kIn R.kC ?_
  obtain ⟨bm, N, nm, qn, bs, hdct, sn, sub, ab, col, dd, k0, k1, k2, k3, k5, mN, hC, hN, hni, T⟩ := exc_obj I.kIn R.made
  exact wpAny_call_exc_subT PySem.F.excBase_ValueError T hC hN hni (fun h' e hm => L2N.mk_of I hm (raises_own R.sub R.ty) h (I.hok.gone hm.new)) (by show 0 ≤ sizeLine; exact Nat.zero_le _)
/-- the classes -/
structure Errs where
  table : Addr
  dish : Addr
  seat : Addr
  shares : Addr
  number : Addr
  pair : Addr
structure ErrsIn (K : PySem.W.Frag) (mg : Str → Option Value) (N : Errs) : Prop where
  table : ErrC K mg "NoTable" N.table
  dish : ErrC K mg "NoDish" N.dish
  seat : ErrC K mg "NoSeat" N.seat
  shares : ErrC K mg "NoShares" N.shares
  number : ErrC K mg "NoNumber" N.number
  pair : ErrC K mg "NoPair" N.pair
end Lp
namespace Lp
open PySem PySem.Spec PyProof.Rows L2
/-! ### the looks ahead, one behind another -/
inductive Chk
  | table (t : V)
  | dish (v : V)
  | number (v : V)
  | shares (t v : V)
  | seat (t v : V)
def sharesD (n : Nat) : PyData → Bool
  | .list ds => decide (ds.length = n) && ds.all (withinD 0 1000000000000000000)
  | _ => false
/-- what the look finds -/
def Chk.Is (K : PySem.W.Frag) (H : Hp) (b : Bool) : Chk → Prop
  | .table v => ∃ d, Dp K H v d ∧ tableD d = b
  | .dish v => ∃ d, Dp K H v d ∧ withinD 0 1000000000000000000 d = b
  | .number v => ∃ d, Dp K H v d ∧ withinD 1 1000000000000000000 d = b
  | .shares t v => ∃ (a : Addr) (xs : List V) (d : PyData), t = .ref a ∧ SqT K H a xs ∧ xs.length ≤ 8 ∧ Dp K H v d ∧ sharesD xs.length d = b
  | .seat t v => ∃ (a : Addr) (xs : List V) (d : PyData), t = .ref a ∧ SqT K H a xs ∧ Dp K H v d ∧ withinD 0 ((xs.length : Int) - 1) d = b
def Chk.cls (N : Errs) : Chk → Addr
  | .table _ => N.table
  | .dish _ => N.dish
  | .number _ => N.number
  | .shares _ _ => N.shares
  | .seat _ _ => N.seat
theorem Chk.Is.same {K : PySem.W.Frag} {H H' : Hp} {b : Bool} {c : Chk} (h : c.Is K H b) (s : Same H H') : c.Is K H' b := by
  cases c with
  | table v => exact h.imp fun d h => ⟨(dp_same s).1 h.1, h.2⟩
  | dish v => exact h.imp fun d h => ⟨(dp_same s).1 h.1, h.2⟩
  | number v => exact h.imp fun d h => ⟨(dp_same s).1 h.1, h.2⟩
  | shares t v =>
    obtain ⟨a, xs, d, h1, h2, h3, h4, h5⟩ := h
    exact ⟨a, xs, d, h1, Same.sqt s h2, h3, (dp_same s).1 h4, h5⟩
  | seat t v =>
    obtain ⟨a, xs, d, h1, h2, h3, h4⟩ := h
    exact ⟨a, xs, d, h1, Same.sqt s h2, (dp_same s).1 h3, h4⟩
/-- the looks cs: the first that fails lets its class out; where none fails it goes on -/
def Looks (K : PySem.W.Frag) (N : Errs) (H : Hp) (Q : VK) (E : XK) : List Chk → Prop
  | [] => ∀ H', Same H H' → Q .non H'
  | c :: cs => (c.Is K H false ∧ ∀ H', Same H H' → E (.ref (c.cls N)) none H') ∨ (c.Is K H true ∧ Looks K N H Q E cs)
theorem Looks.same {K : PySem.W.Frag} {N : Errs} {H H' : Hp} {Q : VK} {E : XK} (s : Same H H') : ∀ {cs : List Chk}, Looks K N H Q E cs → Looks K N H' Q E cs
  | [], h => fun H2 s2 => h H2 (Same.trans s s2)
  | _ :: _, .inl ⟨h1, h2⟩ => .inl ⟨h1.same s, fun H2 s2 => h2 H2 (Same.trans s s2)⟩
  | _ :: _, .inr ⟨h1, h2⟩ => .inr ⟨h1.same s, Looks.same s h2⟩
theorem Looks.split {K : PySem.W.Frag} {N : Errs} {H : Hp} {Q Q' : VK} {E : XK} {cs2 : List Chk} : ∀ {cs1 : List Chk}, Looks K N H Q E (cs1 ++ cs2) → (∀ H', Same H H' → Looks K N H' Q E cs2 → Q' .non H') → Looks K N H Q' E cs1
  | [], h, k => fun H2 s2 => k H2 s2 (h.same s2)
  | _ :: _, .inl h, _ => .inl h
  | _ :: _, .inr ⟨h1, h2⟩, k => .inr ⟨h1, Looks.split h2 k⟩
section
variable {P : Program} {w : World} {K : PySem.W.Frag} {mg : Str → Option Value} {base : Heap}
def xpTable (K : PySem.W.Frag) (N : Errs) : Sp := fun vs H Q E => ∃ v : V, vs = [v] ∧ Looks K N H Q E [.table v]
theorem ok_xneed_table {N : Errs} {f : Addr} {fd : FuncData} (F : L2.Fun K "need_table" "need_table" s_need_table f fd) (R : ErrsIn K mg N) (c_is_table : Cal P w K mg base 3 "is_table" (spTable K)) : FnOk P w K mg base (L2N.CX P w) 4 f fd ["table"] (xpTable K N) := by
  refine ok_raise F sc_need_table (fun vs H Q E h => ?_) (fun cdv A outer s H vs Q E hr h => ?_)
  · obtain ⟨v, rfl, _⟩ := h
    rfl
  · obtain ⟨v, rfl, ⟨⟨d, hd, e⟩, k⟩ | ⟨⟨d, hd, e⟩, k⟩⟩ := h
    · refine ⟨_, (pss_one (ps_if (pt_not (pt_val (pe_g c_is_table hr (pa_cons (pv 0) pa_nil))))
      (pss_one (L2N.ps_raise rfl (L2N.takes_of rfl rfl rfl rfl) (pmk_none R.table)))
      pss_nil)), ⟨_, rfl, v, d, rfl, hd, fun H' sm => ⟨_, rfl, ?_⟩⟩⟩
      rw [e]
      exact iteT (k H' sm)
    · refine ⟨_, (pss_one (ps_if (pt_not (pt_val (pe_g c_is_table hr (pa_cons (pv 0) pa_nil))))
      (pss_one (L2N.ps_raise rfl (L2N.takes_of rfl rfl rfl rfl) (pmk_none R.table)))
      pss_nil)), ⟨_, rfl, v, d, rfl, hd, fun H' sm => ⟨_, rfl, ?_⟩⟩⟩
      rw [e]
      exact iteF (k H' sm)
def xpDish (K : PySem.W.Frag) (N : Errs) : Sp := fun vs H Q E => ∃ v : V, vs = [v] ∧ Looks K N H Q E [.dish v]
theorem ok_xneed_dish {N : Errs} {f : Addr} {fd : FuncData} (F : L2.Fun K "need_dish" "need_dish" s_need_dish f fd) (R : ErrsIn K mg N) (G : Greatest mg) (c_is_within : Cal P w K mg base 1 "is_within" (spWithin K)) : FnOk P w K mg base (L2N.CX P w) 2 f fd ["dish"] (xpDish K N) := by
  refine ok_raise F sc_need_dish (fun vs H Q E h => ?_) (fun cdv A outer s H vs Q E hr h => ?_)
  · obtain ⟨v, rfl, _⟩ := h
    rfl
  · obtain ⟨gv, h_GREATEST, r_GREATEST⟩ := G
    obtain ⟨v, rfl, ⟨⟨d, hd, e⟩, k⟩ | ⟨⟨d, hd, e⟩, k⟩⟩ := h
    · refine ⟨_, (pss_one (ps_if (pt_not (pt_val (pe_g c_is_within hr (pa_cons (pv 0) (pa_cons pe_int (pa_cons (pe_glob (by rfl) h_GREATEST r_GREATEST) pa_nil))))))
      (pss_one (L2N.ps_raise rfl (L2N.takes_of rfl rfl rfl rfl) (pmk_none R.dish)))
      pss_nil)), ⟨_, rfl, v, _, _, d, rfl, hd, ⟨_, rfl, ?_⟩⟩⟩
      rw [e]
      exact iteT (k H (Same.refl H))
    · refine ⟨_, (pss_one (ps_if (pt_not (pt_val (pe_g c_is_within hr (pa_cons (pv 0) (pa_cons pe_int (pa_cons (pe_glob (by rfl) h_GREATEST r_GREATEST) pa_nil))))))
      (pss_one (L2N.ps_raise rfl (L2N.takes_of rfl rfl rfl rfl) (pmk_none R.dish)))
      pss_nil)), ⟨_, rfl, v, _, _, d, rfl, hd, ⟨_, rfl, ?_⟩⟩⟩
      rw [e]
      exact iteF (k H (Same.refl H))
def xpNumber (K : PySem.W.Frag) (N : Errs) : Sp := fun vs H Q E => ∃ v : V, vs = [v] ∧ Looks K N H Q E [.number v]
theorem ok_xneed_number {N : Errs} {f : Addr} {fd : FuncData} (F : L2.Fun K "need_number" "need_number" s_need_number f fd) (R : ErrsIn K mg N) (G : Greatest mg) (c_is_within : Cal P w K mg base 1 "is_within" (spWithin K)) : FnOk P w K mg base (L2N.CX P w) 2 f fd ["number"] (xpNumber K N) := by
  refine ok_raise F sc_need_number (fun vs H Q E h => ?_) (fun cdv A outer s H vs Q E hr h => ?_)
  · obtain ⟨v, rfl, _⟩ := h
    rfl
  · obtain ⟨gv, h_GREATEST, r_GREATEST⟩ := G
    obtain ⟨v, rfl, ⟨⟨d, hd, e⟩, k⟩ | ⟨⟨d, hd, e⟩, k⟩⟩ := h
    · refine ⟨_, (pss_one (ps_if (pt_not (pt_val (pe_g c_is_within hr (pa_cons (pv 0) (pa_cons pe_int (pa_cons (pe_glob (by rfl) h_GREATEST r_GREATEST) pa_nil))))))
      (pss_one (L2N.ps_raise rfl (L2N.takes_of rfl rfl rfl rfl) (pmk_none R.number)))
      pss_nil)), ⟨_, rfl, v, _, _, d, rfl, hd, ⟨_, rfl, ?_⟩⟩⟩
      rw [e]
      exact iteT (k H (Same.refl H))
    · refine ⟨_, (pss_one (ps_if (pt_not (pt_val (pe_g c_is_within hr (pa_cons (pv 0) (pa_cons pe_int (pa_cons (pe_glob (by rfl) h_GREATEST r_GREATEST) pa_nil))))))
      (pss_one (L2N.ps_raise rfl (L2N.takes_of rfl rfl rfl rfl) (pmk_none R.number)))
      pss_nil)), ⟨_, rfl, v, _, _, d, rfl, hd, ⟨_, rfl, ?_⟩⟩⟩
      rw [e]
      exact iteF (k H (Same.refl H))
def xpSeat (K : PySem.W.Frag) (N : Errs) : Sp := fun vs H Q E => ∃ t v : V, vs = [t, v] ∧ Looks K N H Q E [.seat t v]
theorem ok_xneed_seat {N : Errs} {f : Addr} {fd : FuncData} (F : L2.Fun K "need_seat" "need_seat" s_need_seat f fd) (B : Bls mg) (R : ErrsIn K mg N) (c_is_within : Cal P w K mg base 1 "is_within" (spWithin K)) : FnOk P w K mg base (L2N.CX P w) 2 f fd ["table", "seat"] (xpSeat K N) := by
  refine ok_raise F sc_need_seat (fun vs H Q E h => ?_) (fun cdv A outer s H vs Q E hr h => ?_)
  · obtain ⟨t, v, rfl, _⟩ := h
    rfl
  · obtain ⟨t, v, rfl, ⟨⟨a, xs, d, rfl, hs, hd, e⟩, k⟩ | ⟨⟨a, xs, d, rfl, hs, hd, e⟩, k⟩⟩ := h
    · refine ⟨_, (pss_one (ps_if (pt_not (pt_val (pe_g c_is_within hr (pa_cons (pv 1) (pa_cons pe_int (pa_cons (pe_op op_sub (pe_len B (pv 0)) pe_int) pa_nil))))))
      (pss_one (L2N.ps_raise rfl (L2N.takes_of rfl rfl rfl rfl) (pmk_none R.seat)))
      pss_nil)), ⟨_, rfl, _, rfl, a, xs, rfl, .inr hs, _, _, rfl, rfl, v, _, _, d, rfl, hd, ⟨_, rfl, ?_⟩⟩⟩
      rw [e]
      exact iteT (k H (Same.refl H))
    · refine ⟨_, (pss_one (ps_if (pt_not (pt_val (pe_g c_is_within hr (pa_cons (pv 1) (pa_cons pe_int (pa_cons (pe_op op_sub (pe_len B (pv 0)) pe_int) pa_nil))))))
      (pss_one (L2N.ps_raise rfl (L2N.takes_of rfl rfl rfl rfl) (pmk_none R.seat)))
      pss_nil)), ⟨_, rfl, _, rfl, a, xs, rfl, .inr hs, _, _, rfl, rfl, v, _, _, d, rfl, hd, ⟨_, rfl, ?_⟩⟩⟩
      rw [e]
      exact iteF (k H (Same.refl H))
def xpShares (K : PySem.W.Frag) (N : Errs) : Sp := fun vs H Q E => ∃ t v : V, vs = [t, v] ∧ Looks K N H Q E [.shares t v]
theorem ok_xneed_shares {N : Errs} {f : Addr} {fd : FuncData} (F : L2.Fun K "need_shares" "need_shares" s_need_shares f fd) (B : Bls mg) (R : ErrsIn K mg N) (G : Greatest mg) (c_is_within : Cal P w K mg base 1 "is_within" (spWithin K)) : FnOk P w K mg base (L2N.CX P w) 2 f fd ["table", "thing"] (xpShares K N) := by
  refine ok_raise F sc_need_shares (fun vs H Q E h => ?_) (fun cdv A outer s H vs Q E hr h => ?_)
  · obtain ⟨t, v, rfl, _⟩ := h
    rfl
  · obtain ⟨gv, h_GREATEST, r_GREATEST⟩ := G
    obtain ⟨t, v, rfl, h⟩ := h
    obtain ⟨a, xs, d, rfl, ha, n8, hd, kT, kF⟩ : ∃ (a : Addr) (xs : List V) (d : PyData), t = .ref a ∧ SqT K H a xs ∧ xs.length ≤ 8 ∧ Dp K H v d ∧ (sharesD xs.length d = true → ∀ H', Same H H' → Q .non H') ∧ (sharesD xs.length d = false → ∀ H', Same H H' → E (.ref N.shares) none H') := by
      rcases h with ⟨⟨a, xs, d, h1, h2, h3, h4, h5⟩, k⟩ | ⟨⟨a, xs, d, h1, h2, h3, h4, h5⟩, k⟩
      · exact ⟨a, xs, d, h1, h2, h3, h4, (fun z => by rw [h5] at z; cases z), fun _ => k⟩
      · exact ⟨a, xs, d, h1, h2, h3, h4, fun _ => k, fun z => by rw [h5] at z; cases z⟩
    refine ⟨_, (pss_cons (ps_if (PW.pt (pw_or (pt_not (pt_val (pe_isi B (pv 1) (pe_tList B)))) (pw_or1 (pt_cmpR op_ne (pe_len B (pv 1)) (pe_len B (pv 0)) (nomark _)))))
      (pss_one (L2N.ps_raise rfl (L2N.takes_of rfl rfl rfl rfl) (pmk_none R.shares)))
      pss_nil)
      (pss_one (ps_if (pt_not (pt_val (pe_callB (cr_all rfl) (by rfl) B.all (by decide +kernel) (pa_cons (pe_lc (own := [("one", 2)]) (g := gName 2)  (tt := tYes) (by rfl) sc_need_shares.nd (pi_list (pv 1)) (blkOk_by (own := [("one", 2)]) (N := ["table", "thing", "one"]) (sc := defScope s_need_shares) (by decide +kernel)) (fun _ _ _ _ _ => by exact (pg_name (i := 2) sc_need_shares.nd rfl (Or.inl rfl))) (fun _ _ _ _ _ => by exact pts_nil) (fun _ _ _ _ _ => by exact (pe_g c_is_within hr (pa_cons (pv 2) (pa_cons pe_int (pa_cons (pe_glob (by rfl) h_GREATEST r_GREATEST) pa_nil)))))) pa_nil))))
      (pss_one (L2N.ps_raise rfl (L2N.takes_of rfl rfl rfl rfl) (pmk_none R.shares)))
      pss_nil))), ?_⟩
    refine ⟨_, rfl, arg1 ?_⟩
    cases hd with
    | non => exact ⟨_, _, _, _, _, rfl, .ty _, tyx .non, kit_l _ _, ⟨_, rfl, iteT (iteT (kF rfl H (Same.refl H)))⟩⟩
    | bl b => exact ⟨_, _, _, _, _, rfl, .ty _, tyx (.bl b), kit_l _ _, ⟨_, rfl, iteT (iteT (kF rfl H (Same.refl H)))⟩⟩
    | int i => exact ⟨_, _, _, _, _, rfl, .ty _, tyx (.int i), kit_l _ _, ⟨_, rfl, iteT (iteT (kF rfl H (Same.refl H)))⟩⟩
    | str x => exact ⟨_, _, _, _, _, rfl, .ty _, tyx (.str x), kit_l _ _, ⟨_, rfl, iteT (iteT (kF rfl H (Same.refl H)))⟩⟩
    | tup hs hv => exact ⟨_, _, _, _, _, rfl, .ty _, tyx (.tup hs hv), kit_l _ _, ⟨_, rfl, iteT (iteT (kF rfl H (Same.refl H)))⟩⟩
    | @lst b ys ds hs hv =>
      refine ⟨_, _, _, _, _, rfl, .ty _, tyx (.lst hs hv), kit_l _ _, ⟨_, rfl, iteF ?_⟩⟩
      have el := dpAll_len hv
      refine ⟨_, rfl, b, ys, rfl, .inl hs, _, rfl, a, xs, rfl, .inr ha, rfl, _, rfl, ?_⟩
      by_cases len : ds.length = xs.length
      · rw [el, len, decide_eq_true rfl]
        refine iteF (next_mk ?_)
        refine ⟨_, rfl, b, rfl, ⟨_, hs⟩, fun Dl hD => ?_⟩
        refine lc_list (K := K) (a := b) (xs := ys) (fun i H' => Same H H' ∧ H' Dl = some (.lst ((ds.take i).map fun d => V.bl (withinD 0 1000000000000000000 d)))) ⟨same_upd hD, upd_same⟩ (fun i H' _ h => (Same.evn h.1).sql hs) ?_ ?_
        · rintro i x H' hi ⟨sm, hl⟩
          obtain ⟨d, e1, e2⟩ := dpAll_get hv hi
          have l8 : i < ds.length := by rw [← el]; exact (List.getElem?_eq_some_iff.mp hi).1
          refine ⟨rfl, ?_⟩
          refine ⟨_, rfl, x, _, _, d, rfl, (dp_same sm).1 e2, _, hl, by rw [List.length_map, List.length_take]; exact small1000 (by omega), upd_kept sm hD, ?_⟩
          rw [upd_same, List.take_add_one, e1, List.map_append]
          rfl
        · rintro H1 ⟨s1, hl⟩
          refine ⟨Dl, ds.map (withinD 0 1000000000000000000), rfl, SqL.of ?_, ?_⟩
          · rw [hl, el, List.take_length, List.map_map]
            rfl
          · have e : sharesD xs.length (.list ds) = (ds.map (withinD 0 1000000000000000000)).all id := by
              show (decide (ds.length = xs.length) && ds.all (withinD 0 1000000000000000000)) = _
              rw [decide_eq_true len, Bool.true_and, List.all_map]
              rfl
            rw [← e]
            refine ⟨_, rfl, ?_⟩
            cases q : sharesD xs.length (.list ds) with
            | true => exact iteF (kT q H1 s1)
            | false => exact iteT (kF q H1 s1)
      · have e : decide (V.int ((ys.length : Nat) : Int) = V.int ((xs.length : Nat) : Int)) = false := decide_eq_false fun z => len (by have := V.int.inj z; omega)
        rw [e]
        refine iteT (kF ?_ H (Same.refl H))
        show (decide (ds.length = xs.length) && _) = false
        rw [decide_eq_false len]
        rfl
/-! ### the doors -/
def xpAsked (K : PySem.W.Frag) (N : Errs) : Sp := fun vs H Q E => ∃ t d : V, vs = [t, d] ∧ Looks K N H Q E [.table t, .dish d]
theorem ok_xneed_asked {N : Errs} {f : Addr} {fd : FuncData} (F : L2.Fun K "need_asked" "need_asked" s_need_asked f fd) (x_need_table : CalX P w K mg base 4 "need_table" (xpTable K N)) (x_need_dish : CalX P w K mg base 2 "need_dish" (xpDish K N)) : FnOk P w K mg base (L2N.CX P w) 5 f fd ["table", "dish"] (xpAsked K N) := by
  refine ok_raise F sc_need_asked (fun vs H Q E h => ?_) (fun cdv A outer s H vs Q E hr h => ?_)
  · obtain ⟨t, d, rfl, _⟩ := h
    rfl
  · obtain ⟨t, d, rfl, h⟩ := h
    exact ⟨_, (pss_cons (ps_expr (pe_gX x_need_table hr (L2N.takes_of rfl rfl rfl rfl) (pa_cons (pv 0) pa_nil)))
      (pss_one (ps_expr (pe_gX x_need_dish hr (L2N.takes_of rfl rfl rfl rfl) (pa_cons (pv 1) pa_nil))))), ⟨_, rfl, t, rfl, Looks.split (cs1 := [.table t]) h fun H1 s1 h => ⟨_, rfl, d, rfl, h⟩⟩⟩
def xpSeen (K : PySem.W.Frag) (N : Errs) : Sp := fun vs H Q E => ∃ t d s p f : V, vs = [t, d, s, p, f] ∧ Looks K N H Q E [.table t, .dish d, .shares t s, .seat t p, .seat t f]
theorem ok_xneed_seen {N : Errs} {f : Addr} {fd : FuncData} (F : L2.Fun K "need_seen" "need_seen" s_need_seen f fd) (x_need_asked : CalX P w K mg base 5 "need_asked" (xpAsked K N)) (x_need_shares : CalX P w K mg base 2 "need_shares" (xpShares K N)) (x_need_seat : CalX P w K mg base 2 "need_seat" (xpSeat K N)) :
    FnOk P w K mg base (L2N.CX P w) 6 f fd ["table", "dish", "shares", "seat", "first"] (xpSeen K N) := by
  refine ok_raise F sc_need_seen (fun vs H Q E h => ?_) (fun cdv A outer s H vs Q E hr h => ?_)
  · obtain ⟨t, d, s, p, f, rfl, _⟩ := h
    rfl
  · obtain ⟨t, d, s, p, f, rfl, h⟩ := h
    refine ⟨_, (pss_cons (ps_expr (pe_gX x_need_asked hr (L2N.takes_of rfl rfl rfl rfl) (pa_cons (pv 0) (pa_cons (pv 1) pa_nil))))
      (pss_cons (ps_expr (pe_gX x_need_shares hr (L2N.takes_of rfl rfl rfl rfl) (pa_cons (pv 0) (pa_cons (pv 2) pa_nil))))
      (pss_cons (ps_expr (pe_gX x_need_seat hr (L2N.takes_of rfl rfl rfl rfl) (pa_cons (pv 0) (pa_cons (pv 3) pa_nil))))
      (pss_one (ps_expr (pe_gX x_need_seat hr (L2N.takes_of rfl rfl rfl rfl) (pa_cons (pv 0) (pa_cons (pv 4) pa_nil)))))))), ⟨_, rfl, _, rfl, t, d, rfl, Looks.split (cs1 := [.table t, .dish d]) h fun H1 s1 h => ?_⟩⟩
    refine ⟨_, rfl, _, rfl, t, s, rfl, Looks.split (cs1 := [.shares t s]) h fun H2 s2 h => ?_⟩
    refine ⟨_, rfl, _, rfl, t, p, rfl, Looks.split (cs1 := [.seat t p]) h fun H3 s3 h => ?_⟩
    exact ⟨_, rfl, _, rfl, t, f, rfl, h⟩
/-- a door that refuses: mk tells the looks by the arguments -/
def xpDoor (K : PySem.W.Frag) (N : Errs) (n : Nat) (mk : List V → List Chk) : Sp := fun vs H _ E => vs.length = n ∧ Looks K N H (fun _ _ => False) E (mk vs)
def mk3 : List V → List Chk
  | [t, d, f] => [.table t, .dish d, .seat t f]
  | _ => []
def mkTake : List V → List Chk
  | [t, d, n, f] => [.table t, .dish d, .number n, .seat t f]
  | _ => []
def mkDish : List V → List Chk
  | [t, s, f] => [.table t, .shares t s, .seat t f]
  | _ => []
def mkFit : List V → List Chk
  | [t, d, s, p, f] => [.table t, .dish d, .shares t s, .seat t p, .seat t f]
  | _ => []
end
end Lp
namespace Lp
open PySem PySem.Spec PyProof.Rows L2
section
variable {P : Program} {w : World} {K : PySem.W.Frag} {mg : Str → Option Value} {base : Heap}
theorem ok_xshares {N : Errs} {f : Addr} {fd : FuncData} (F : FunD K "shares" "shares" (defArgs s_shares) (defBody s_shares) (defScope s_shares) [] [("first", .int 0)] f fd) (x_need_asked : CalX P w K mg base 5 "need_asked" (xpAsked K N)) (x_need_seat : CalX P w K mg base 2 "need_seat" (xpSeat K N)) : FnOk P w K mg base (L2N.CX P w) 6 f fd ["table", "dish", "first"] (xpDoor K N 3 mk3) := by
  refine F.ok sc_shares (fun vs H Q E h => h.1) (fun cdv A outer s H vs Q E hr h => ?_)
  obtain ⟨len, h⟩ := h
  match vs, len with
  | [t, d, f], _ =>
    refine ⟨_, (pss_cons (ps_expr (pe_gX x_need_asked hr (L2N.takes_of rfl rfl rfl rfl) (pa_cons (pv 0) (pa_cons (pv 1) pa_nil))))
      (pss_cons (ps_expr (pe_gX x_need_seat hr (L2N.takes_of rfl rfl rfl rfl) (pa_cons (pv 0) (pa_cons (pv 2) pa_nil))))
      pss_never)), ?_⟩
    refine ⟨_, rfl, _, rfl, t, d, rfl, Looks.split (cs1 := [.table t, .dish d]) h fun H1 s1 h => ?_⟩
    refine ⟨_, rfl, _, rfl, t, f, rfl, Looks.split (cs1 := [.seat t f]) h fun H2 s2 h => ?_⟩
    exact h _ (Same.refl _)
theorem ok_xleft {N : Errs} {f : Addr} {fd : FuncData} (F : FunD K "left" "left" (defArgs s_left) (defBody s_left) (defScope s_left) [] [("first", .int 0)] f fd) (x_need_asked : CalX P w K mg base 5 "need_asked" (xpAsked K N)) (x_need_seat : CalX P w K mg base 2 "need_seat" (xpSeat K N)) : FnOk P w K mg base (L2N.CX P w) 6 f fd ["table", "dish", "first"] (xpDoor K N 3 mk3) := by
  refine F.ok sc_left (fun vs H Q E h => h.1) (fun cdv A outer s H vs Q E hr h => ?_)
  obtain ⟨len, h⟩ := h
  match vs, len with
  | [t, d, f], _ =>
    refine ⟨_, (pss_cons (ps_expr (pe_gX x_need_asked hr (L2N.takes_of rfl rfl rfl rfl) (pa_cons (pv 0) (pa_cons (pv 1) pa_nil))))
      (pss_cons (ps_expr (pe_gX x_need_seat hr (L2N.takes_of rfl rfl rfl rfl) (pa_cons (pv 0) (pa_cons (pv 2) pa_nil))))
      pss_never)), ?_⟩
    refine ⟨_, rfl, _, rfl, t, d, rfl, Looks.split (cs1 := [.table t, .dish d]) h fun H1 s1 h => ?_⟩
    refine ⟨_, rfl, _, rfl, t, f, rfl, Looks.split (cs1 := [.seat t f]) h fun H2 s2 h => ?_⟩
    exact h _ (Same.refl _)
theorem ok_xgains {N : Errs} {f : Addr} {fd : FuncData} (F : FunD K "gains" "gains" (defArgs s_gains) (defBody s_gains) (defScope s_gains) [] [("first", .int 0)] f fd) (x_need_asked : CalX P w K mg base 5 "need_asked" (xpAsked K N)) (x_need_seat : CalX P w K mg base 2 "need_seat" (xpSeat K N)) : FnOk P w K mg base (L2N.CX P w) 6 f fd ["table", "dish", "first"] (xpDoor K N 3 mk3) := by
  refine F.ok sc_gains (fun vs H Q E h => h.1) (fun cdv A outer s H vs Q E hr h => ?_)
  obtain ⟨len, h⟩ := h
  match vs, len with
  | [t, d, f], _ =>
    refine ⟨_, (pss_cons (ps_expr (pe_gX x_need_asked hr (L2N.takes_of rfl rfl rfl rfl) (pa_cons (pv 0) (pa_cons (pv 1) pa_nil))))
      (pss_cons (ps_expr (pe_gX x_need_seat hr (L2N.takes_of rfl rfl rfl rfl) (pa_cons (pv 0) (pa_cons (pv 2) pa_nil))))
      pss_never)), ?_⟩
    refine ⟨_, rfl, _, rfl, t, d, rfl, Looks.split (cs1 := [.table t, .dish d]) h fun H1 s1 h => ?_⟩
    refine ⟨_, rfl, _, rfl, t, f, rfl, Looks.split (cs1 := [.seat t f]) h fun H2 s2 h => ?_⟩
    exact h _ (Same.refl _)
theorem ok_xtaker {N : Errs} {f : Addr} {fd : FuncData} (F : FunD K "taker" "taker" (defArgs s_taker) (defBody s_taker) (defScope s_taker) [] [("first", .int 0)] f fd) (x_need_asked : CalX P w K mg base 5 "need_asked" (xpAsked K N)) (x_need_number : CalX P w K mg base 2 "need_number" (xpNumber K N)) (x_need_seat : CalX P w K mg base 2 "need_seat" (xpSeat K N)) : FnOk P w K mg base (L2N.CX P w) 6 f fd ["table", "dish", "number", "first"] (xpDoor K N 4 mkTake) := by
  refine F.ok sc_taker (fun vs H Q E h => h.1) (fun cdv A outer s H vs Q E hr h => ?_)
  obtain ⟨len, h⟩ := h
  match vs, len with
  | [t, d, n, f], _ =>
    refine ⟨_, (pss_cons (ps_expr (pe_gX x_need_asked hr (L2N.takes_of rfl rfl rfl rfl) (pa_cons (pv 0) (pa_cons (pv 1) pa_nil))))
      (pss_cons (ps_expr (pe_gX x_need_number hr (L2N.takes_of rfl rfl rfl rfl) (pa_cons (pv 2) pa_nil)))
      (pss_cons (ps_expr (pe_gX x_need_seat hr (L2N.takes_of rfl rfl rfl rfl) (pa_cons (pv 0) (pa_cons (pv 3) pa_nil))))
      pss_never))), ?_⟩
    refine ⟨_, rfl, _, rfl, t, d, rfl, Looks.split (cs1 := [.table t, .dish d]) h fun H1 s1 h => ?_⟩
    refine ⟨_, rfl, n, rfl, Looks.split (cs1 := [.number n]) h fun H2 s2 h => ?_⟩
    refine ⟨_, rfl, _, rfl, t, f, rfl, Looks.split (cs1 := [.seat t f]) h fun H3 s3 h => ?_⟩
    exact h _ (Same.refl _)
theorem ok_xdishes {N : Errs} {f : Addr} {fd : FuncData} (F : FunD K "dishes" "dishes" (defArgs s_dishes) (defBody s_dishes) (defScope s_dishes) [] [("first", .int 0)] f fd) (x_need_table : CalX P w K mg base 4 "need_table" (xpTable K N)) (x_need_shares : CalX P w K mg base 2 "need_shares" (xpShares K N)) (x_need_seat : CalX P w K mg base 2 "need_seat" (xpSeat K N)) : FnOk P w K mg base (L2N.CX P w) 9 f fd ["table", "shares", "first"] (xpDoor K N 3 mkDish) := by
  refine F.ok sc_dishes (fun vs H Q E h => h.1) (fun cdv A outer s H vs Q E hr h => ?_)
  obtain ⟨len, h⟩ := h
  match vs, len with
  | [t, s, f], _ =>
    refine ⟨_, (pss_cons (ps_expr (pe_gX x_need_table hr (L2N.takes_of rfl rfl rfl rfl) (pa_cons (pv 0) pa_nil)))
      (pss_cons (ps_expr (pe_gX x_need_shares hr (L2N.takes_of rfl rfl rfl rfl) (pa_cons (pv 0) (pa_cons (pv 1) pa_nil))))
      (pss_cons (ps_expr (pe_gX x_need_seat hr (L2N.takes_of rfl rfl rfl rfl) (pa_cons (pv 0) (pa_cons (pv 2) pa_nil))))
      pss_never))), ?_⟩
    refine ⟨_, rfl, t, rfl, Looks.split (cs1 := [.table t]) h fun H1 s1 h => ?_⟩
    refine ⟨_, rfl, _, rfl, t, s, rfl, Looks.split (cs1 := [.shares t s]) h fun H2 s2 h => ?_⟩
    refine ⟨_, rfl, _, rfl, t, f, rfl, Looks.split (cs1 := [.seat t f]) h fun H3 s3 h => ?_⟩
    exact h _ (Same.refl _)
theorem ok_xleast_dish {N : Errs} {f : Addr} {fd : FuncData} (F : FunD K "least_dish" "least_dish" (defArgs s_least_dish) (defBody s_least_dish) (defScope s_least_dish) [] [("first", .int 0)] f fd) (x_need_table : CalX P w K mg base 4 "need_table" (xpTable K N)) (x_need_shares : CalX P w K mg base 2 "need_shares" (xpShares K N)) (x_need_seat : CalX P w K mg base 2 "need_seat" (xpSeat K N)) : FnOk P w K mg base (L2N.CX P w) 9 f fd ["table", "wishes", "first"] (xpDoor K N 3 mkDish) := by
  refine F.ok sc_least_dish (fun vs H Q E h => h.1) (fun cdv A outer s H vs Q E hr h => ?_)
  obtain ⟨len, h⟩ := h
  match vs, len with
  | [t, s, f], _ =>
    refine ⟨_, (pss_cons (ps_expr (pe_gX x_need_table hr (L2N.takes_of rfl rfl rfl rfl) (pa_cons (pv 0) pa_nil)))
      (pss_cons (ps_expr (pe_gX x_need_shares hr (L2N.takes_of rfl rfl rfl rfl) (pa_cons (pv 0) (pa_cons (pv 1) pa_nil))))
      (pss_cons (ps_expr (pe_gX x_need_seat hr (L2N.takes_of rfl rfl rfl rfl) (pa_cons (pv 0) (pa_cons (pv 2) pa_nil))))
      pss_never))), ?_⟩
    refine ⟨_, rfl, t, rfl, Looks.split (cs1 := [.table t]) h fun H1 s1 h => ?_⟩
    refine ⟨_, rfl, _, rfl, t, s, rfl, Looks.split (cs1 := [.shares t s]) h fun H2 s2 h => ?_⟩
    refine ⟨_, rfl, _, rfl, t, f, rfl, Looks.split (cs1 := [.seat t f]) h fun H3 s3 h => ?_⟩
    exact h _ (Same.refl _)
theorem ok_xcourtesies {N : Errs} {f : Addr} {fd : FuncData} (F : FunD K "courtesies" "courtesies" (defArgs s_courtesies) (defBody s_courtesies) (defScope s_courtesies) [] [("first", .int 0)] f fd) (x_need_seen : CalX P w K mg base 6 "need_seen" (xpSeen K N)) : FnOk P w K mg base (L2N.CX P w) 8 f fd ["table", "dish", "shares", "seat", "first"] (xpDoor K N 5 mkFit) := by
  refine F.ok sc_courtesies (fun vs H Q E h => h.1) (fun cdv A outer s H vs Q E hr h => ?_)
  obtain ⟨len, h⟩ := h
  match vs, len with
  | [t, d, s, p, f], _ =>
    refine ⟨_, (pss_cons (ps_expr (pe_gX x_need_seen hr (L2N.takes_of rfl rfl rfl rfl) (pa_cons (pv 0) (pa_cons (pv 1) (pa_cons (pv 2) (pa_cons (pv 3) (pa_cons (pv 4) pa_nil)))))))
      pss_never), ?_⟩
    refine ⟨_, rfl, _, rfl, _, rfl, _, rfl, _, rfl, t, d, s, p, f, rfl, Looks.split (cs1 := [.table t, .dish d, .shares t s, .seat t p, .seat t f]) h fun H1 s1 h => ?_⟩
    exact h _ (Same.refl _)
theorem ok_xenoughs {N : Errs} {f : Addr} {fd : FuncData} (F : FunD K "enoughs" "enoughs" (defArgs s_enoughs) (defBody s_enoughs) (defScope s_enoughs) [] [("first", .int 0)] f fd) (x_need_seen : CalX P w K mg base 6 "need_seen" (xpSeen K N)) : FnOk P w K mg base (L2N.CX P w) 8 f fd ["table", "dish", "shares", "seat", "first"] (xpDoor K N 5 mkFit) := by
  refine F.ok sc_enoughs (fun vs H Q E h => h.1) (fun cdv A outer s H vs Q E hr h => ?_)
  obtain ⟨len, h⟩ := h
  match vs, len with
  | [t, d, s, p, f], _ =>
    refine ⟨_, (pss_cons (ps_expr (pe_gX x_need_seen hr (L2N.takes_of rfl rfl rfl rfl) (pa_cons (pv 0) (pa_cons (pv 1) (pa_cons (pv 2) (pa_cons (pv 3) (pa_cons (pv 4) pa_nil)))))))
      pss_never), ?_⟩
    refine ⟨_, rfl, _, rfl, _, rfl, _, rfl, _, rfl, t, d, s, p, f, rfl, Looks.split (cs1 := [.table t, .dish d, .shares t s, .seat t p, .seat t f]) h fun H1 s1 h => ?_⟩
    exact h _ (Same.refl _)
end
end Lp
namespace Lp
open PySem PySem.Spec PyProof.Rows L2
def smallB (g : Guest) : Bool := decide (g.1 ≤ 30) && match g.2 with
  | none => true
  | some m => decide (m ≤ 30)
theorem smallB_of {g : Guest} (h1 : g.1 ≤ 30) (h2 : ∀ m, g.2 = some m → m ≤ 30) : smallB g = true := by
  obtain ⟨c, o⟩ := g
  unfold smallB
  rw [decide_eq_true h1]
  cases o with
  | none => rfl
  | some m => exact decide_eq_true (h2 m rfl)
section
variable {P : Program} {w : World} {K : PySem.W.Frag} {mg : Str → Option Value} {base : Heap}
def spSmallB (K : PySem.W.Frag) : Sp := fun vs H Q _ => ∃ (a : Addr) (t : List Guest), vs = [.ref a] ∧ TableAt K H a t ∧ Q (.bl (t.all smallB)) H
theorem ok_is_smallB {f : Addr} {fd : FuncData} (F : L2.Fun K "is_small" "is_small" s_is_small f fd) (S : Smalls mg) : FnOk P w K mg base L2.CX0 1 f fd ["table"] (spSmallB K) := by
  refine F.ok sc_is_small (fun vs H Q E h => ?_) (fun cdv A outer s H vs Q E hr h => ?_)
  · obtain ⟨a, t, rfl, _⟩ := h
    rfl
  · obtain ⟨a, t, rfl, tb, k⟩ := h
    obtain ⟨gv, h_SMALL, r_SMALL⟩ := S.small
    obtain ⟨xs, hx, hl, hg⟩ := tb.open
    refine ⟨_, (pss_cons (ps_for PassesOwn.never rfl (pi_tup (pv 0)) (pg_tup (by rfl) (pgs_cons (pg_name (i := 1) sc_is_small.nd rfl (Or.inl rfl)) (pgs_cons (pg_name (i := 2) sc_is_small.nd rfl (Or.inl rfl)) pgs_nil)))
      (pss_one (ps_if (PW.pt (pw_or (pt_cmpR op_gt (pv 1) (pe_glob (by rfl) h_SMALL r_SMALL) (nomark _)) (pw_or1 (PW.pt (pw_and (pt_cmpR op_notN (pv 2) pe_non (nomark _)) (pw_and1 (pt_cmpR op_gt (pv 2) (pe_glob (by rfl) h_SMALL r_SMALL) (nomark _))))))))
      (pss_one (ps_ret pe_bl))
      pss_nil)))
      (pss_one (ps_ret pe_bl))), ?_⟩
    refine ⟨_, rfl, a, rfl, ⟨_, hx⟩, ?_⟩
    refine for_tup (K := K) (a := a) (xs := xs) (fun j σ H' => ∃ (v1 v2 : Option V), σ = [some (.ref a), v1, v2] ∧ H' = H ∧ (t.take j).all smallB = true) ⟨none, none, rfl, rfl, rfl⟩ ?_ ?_ ?_
    · rintro j σ H' hj ⟨v1, v2, rfl, rfl, _⟩
      exact hx
    · rintro j x σ H' hj ⟨v1, v2, rfl, rfl, al⟩
      have jt : j < t.length := by rw [← hl]; exact (List.getElem?_eq_some_iff.mp hj).1
      have hgt := List.getElem?_eq_getElem jt
      obtain ⟨p, e1, e2⟩ := hg j _ hgt
      have more : smallB t[j] = true → (t.take (j + 1)).all smallB = true := fun z => by
        rw [List.take_add_one, hgt, List.all_append, al]
        simpa using z
      have less : smallB t[j] = false → t.all smallB = false := fun z => List.all_eq_false.mpr ⟨t[j], List.getElem_mem jt, by rw [z]; exact Bool.false_ne_true⟩
      generalize t[j] = g at e2 more less
      rw [e1] at hj
      cases hj
      obtain ⟨c, o⟩ := g
      refine ⟨p, _, rfl, e2, rfl, _, _, rfl, _, _, rfl, rfl, ?_⟩
      have out : smallB (c, o) = false → Q (.bl false) H' := fun z => by
        have := k
        rw [less z] at this
        exact this
      refine ⟨_, rfl, _, _, rfl, rfl, _, rfl, ?_⟩
      by_cases c1 : 30 < c
      · rw [decide_eq_true c1]
        refine iteT (iteT (out ?_))
        show (decide (c ≤ 30) && _) = false
        rw [decide_eq_false (by omega)]
        rfl
      · rw [decide_eq_false c1]
        refine iteF ⟨_, rfl, rfl, _, rfl, ?_⟩
        cases o with
        | none => exact iteF (iteF ⟨_, _, rfl, rfl, more (smallB_of (by show c ≤ 30; omega) fun m e => by cases e)⟩)
        | some m =>
          refine iteT ⟨_, rfl, _, _, rfl, rfl, _, rfl, ?_⟩
          by_cases c2 : 30 < m
          · rw [decide_eq_true c2]
            refine iteT (out ?_)
            show (_ && decide (m ≤ 30)) = false
            rw [decide_eq_false (show ¬ m ≤ 30 by omega), Bool.and_false]
          · rw [decide_eq_false c2]
            exact iteF ⟨_, _, rfl, rfl, more (smallB_of (by show c ≤ 30; omega) fun m' e => by cases e; omega)⟩
    · rintro σ H' ⟨v1, v2, rfl, rfl, al⟩
      rw [hl, List.take_length] at al
      rw [al] at k
      exact k
/-- two tables that can't be compared -/
def xpParted (K : PySem.W.Frag) (N : Errs) : Sp := fun vs H _ E => ∃ x y : V, vs = [x, y] ∧
  (Looks K N H (fun _ _ => False) E [.table x, .table y] ∨
  ∃ (a b : Addr) (t u : List Guest), x = .ref a ∧ y = .ref b ∧ TableAt K H a t ∧ TableAt K H b u ∧ TabOk t ∧ TabOk u ∧ (t.length ≠ u.length ∨ t.all smallB = false ∨ u.all smallB = false) ∧ ∀ H', Same H H' → E (.ref N.pair) none H')
theorem ok_xparted {N : Errs} {f : Addr} {fd : FuncData} (F : L2.Fun K "parted" "parted" s_parted f fd) (B : Bls mg) (R : ErrsIn K mg N) (x_need_table : CalX P w K mg base 4 "need_table" (xpTable K N)) (c_is_small : Cal P w K mg base 1 "is_small" (spSmallB K)) : FnOk P w K mg base (L2N.CX P w) 5 f fd ["one", "other"] (xpParted K N) := by
  refine ok_raise F sc_parted (fun vs H Q E h => ?_) (fun cdv A outer s H vs Q E hr h => ?_)
  · obtain ⟨x, y, rfl, _⟩ := h
    rfl
  · obtain ⟨x, y, rfl, h | ⟨a, b, t, u, rfl, rfl, tb, ub, ok, oku, no, k⟩⟩ := h
    · exact ⟨_, (pss_cons (ps_expr (pe_gX x_need_table hr (L2N.takes_of rfl rfl rfl rfl) (pa_cons (pv 0) pa_nil)))
      (pss_cons (ps_expr (pe_gX x_need_table hr (L2N.takes_of rfl rfl rfl rfl) (pa_cons (pv 1) pa_nil)))
      (pss_cons (ps_if (PW.pt (pw_or (pt_cmpR op_ne (pe_len B (pv 0)) (pe_len B (pv 1)) (nomark _)) (pw_or (pt_not (pt_val (pe_g c_is_small hr (pa_cons (pv 0) pa_nil)))) (pw_or1 (pt_not (pt_val (pe_g c_is_small hr (pa_cons (pv 1) pa_nil))))))))
      (pss_one (L2N.ps_raise rfl (L2N.takes_of rfl rfl rfl rfl) (pmk_none R.pair)))
      pss_nil)
      pss_never))), ⟨_, rfl, x, rfl, Looks.split (cs1 := [.table x]) h fun H1 s1 h => ⟨_, rfl, y, rfl, Looks.split (cs1 := [.table y]) h fun H2 s2 h => (h _ (Same.refl _)).elim⟩⟩⟩
    · refine ⟨_, (pss_cons (ps_expr (pe_gX x_need_table hr (L2N.takes_of rfl rfl rfl rfl) (pa_cons (pv 0) pa_nil)))
      (pss_cons (ps_expr (pe_gX x_need_table hr (L2N.takes_of rfl rfl rfl rfl) (pa_cons (pv 1) pa_nil)))
      (pss_cons (ps_if (PW.pt (pw_or (pt_cmpR op_ne (pe_len B (pv 0)) (pe_len B (pv 1)) (nomark _)) (pw_or (pt_not (pt_val (pe_g c_is_small hr (pa_cons (pv 0) pa_nil)))) (pw_or1 (pt_not (pt_val (pe_g c_is_small hr (pa_cons (pv 1) pa_nil))))))))
      (pss_one (L2N.ps_raise rfl (L2N.takes_of rfl rfl rfl rfl) (pmk_none R.pair)))
      pss_nil)
      pss_never))), ⟨_, rfl, _, rfl, .inr ⟨⟨_, tb, tableD_ok ok⟩, fun H1 s1 => ⟨_, rfl, _, rfl, .inr ⟨⟨_, (dp_same s1).1 ub, tableD_ok oku⟩, fun H2 s2 => ?_⟩⟩⟩⟩⟩
      have s12 := Same.trans s1 s2
      obtain ⟨xs, hx, hl, _⟩ := (tb.same s12).open
      obtain ⟨ys, hy, hly, _⟩ := (ub.same s12).open
      refine ⟨_, rfl, a, xs, rfl, .inr hx, _, rfl, b, ys, rfl, .inr hy, rfl, _, rfl, ?_⟩
      by_cases len : xs.length = ys.length
      · rw [len]
        refine if_ne ?_
        refine ⟨_, rfl, a, t, rfl, tb.same s12, _, rfl, ?_⟩
        cases st : t.all smallB with
        | false => exact iteT (iteT (k _ s12))
        | true =>
          refine iteF ⟨_, rfl, b, u, rfl, ub.same s12, _, rfl, ?_⟩
          cases su : u.all smallB with
          | false => exact iteT (k _ s12)
          | true =>
            rcases no with z | z | z
            · exact absurd (by omega) z
            · rw [st] at z; cases z
            · rw [su] at z; cases z
      · rw [decide_eq_false fun z => len (by have := V.int.inj z; omega)]
        exact iteT (iteT (k _ s12))
end
end Lp
namespace Lp
open PySem PySem.Spec PyProof.Rows L2 LamX NdefX
/-- the third argument is one that the word asks for -/
inductive Third (K : PySem.W.Frag) (H : Hp) (n : Nat) : Str → V → Prop
  | shares (v : V) : Third K H n "shares" v
  | left (v : V) : Third K H n "left" v
  | gains (v : V) : Third K H n "gains" v
  | taker (b : Int) (h1 : 1 ≤ b) (h2 : b ≤ 1000000000000000000) : Third K H n "taker" (.int b)
  | dishes (a : Addr) (ns : List Int) (h1 : SqL K H a (ns.map V.int)) (h2 : ns.length = n) (h3 : ∀ m ∈ ns, 0 ≤ m ∧ m ≤ 1000000000000000000) : Third K H n "dishes" (.ref a)
  | least (a : Addr) (ns : List Int) (h1 : SqL K H a (ns.map V.int)) (h2 : ns.length = n) (h3 : ∀ m ∈ ns, 0 ≤ m ∧ m ≤ 1000000000000000000) : Third K H n "least" (.ref a)
  | courtesies (a : Addr) (ns : List Int) (h1 : SqL K H a (ns.map V.int)) (h2 : ns.length = n) (h3 : ∀ m ∈ ns, 0 ≤ m ∧ m ≤ 1000000000000000000) : Third K H n "courtesies" (.ref a)
  | enoughs (a : Addr) (ns : List Int) (h1 : SqL K H a (ns.map V.int)) (h2 : ns.length = n) (h3 : ∀ m ∈ ns, 0 ≤ m ∧ m ≤ 1000000000000000000) : Third K H n "enoughs" (.ref a)
/-- the looks of a door by its word -/
inductive Asks : Str → V → V → V → V → V → List Chk → Prop
  | shares (t d h s b : V) : Asks "shares" t d h s b [.table t, .dish d, .seat t b]
  | left (t d h s b : V) : Asks "left" t d h s b [.table t, .dish d, .seat t b]
  | gains (t d h s b : V) : Asks "gains" t d h s b [.table t, .dish d, .seat t b]
  | taker (t d h s b : V) : Asks "taker" t d h s b [.table t, .dish d, .number h, .seat t b]
  | dishes (t d h s b : V) : Asks "dishes" t d h s b [.table t, .shares t h, .seat t b]
  | least (t d h s b : V) : Asks "least" t d h s b [.table t, .shares t h, .seat t b]
  | courtesies (t d h s b : V) : Asks "courtesies" t d h s b [.table t, .dish d, .shares t h, .seat t s, .seat t b]
  | enoughs (t d h s b : V) : Asks "enoughs" t d h s b [.table t, .dish d, .shares t h, .seat t s, .seat t b]
/-- word == x -/
theorem word_eq {x : Str} {A B : Prop} (q : A) : if decide (V.str x = V.str x) = true then A else B := by
  rw [decide_eq_true rfl]; exact iteT q
theorem word_ne {x y : Str} {A B : Prop} (h : x ≠ y) (q : B) : if decide (V.str x = V.str y) = true then A else B := by
  rw [decide_eq_false fun z => h (V.str.inj z)]; exact iteF q
section
variable {P : Program} {w : World} {K : PySem.W.Frag} {mg : Str → Option Value} {base : Heap}
def spAsked (K : PySem.W.Frag) (T : List NTab) : Sp := fun vs H Q _ => ∃ (word : Str) (ta : Addr) (t : List Guest) (d : Int) (h : V) (p f : Nat), vs = [.str word, .ref ta, .int d, h, .int (p : Int), .int (f : Int)] ∧ TableAt K H ta t ∧ TabOk t ∧ 0 ≤ d ∧ d ≤ 1000000000000000000 ∧ p < t.length ∧ f < t.length ∧ TabsN T H ∧ Third K H t.length word h ∧
  ∀ v H', EvN H H' → TabsN T H' → Q v H'
theorem sc_law_asked : FnScope ["word", "table", "dish", "third", "seat", "begin"] ["word", "table", "dish", "third", "seat", "begin"] (defScope s_law_asked) := ⟨rfl, rfl, rfl, by decide +kernel, rfl, by decide +kernel, by decide +kernel⟩
theorem ok_asked {T : List NTab} {f : Addr} {fd : FuncData} (F : L2.Fun K "_law_asked" "_law_asked" s_law_asked f fd) (k_shares : CalK P w K mg base 6 2 "shares" (spShares K)) (k_left : CalK P w K mg base 6 2 "left" (spLeft K)) (k_taker : CalK P w K mg base 6 3 "taker" (spTaker K)) (k_gains : CalK P w K mg base 6 2 "gains" (spGains K)) (k_dishes : CalK P w K mg base 9 2 "dishes" (spDishes K T)) (k_least_dish : CalK P w K mg base 9 2 "least_dish" (spLeastDish K T))
    (k_courtesies : CalK P w K mg base 8 4 "courtesies" (spCourt K T)) (k_enoughs : CalK P w K mg base 8 4 "enoughs" (spEnough K T)) : FnOk P w K mg base L2.CX0 10 f fd ["word", "table", "dish", "third", "seat", "begin"] (spAsked K T) := by
  refine F.ok sc_law_asked (fun vs H Q E h => ?_) (fun cdv A outer s H vs Q E hr h => ?_)
  · obtain ⟨_, _, _, _, _, _, _, rfl, _⟩ := h
    rfl
  · obtain ⟨word, ta, t, d, h, p, fs, rfl, tb, ok, d0, d1, hp, hf, hT, th, q⟩ := h
    refine ⟨_, (pss_cons (ps_if (pt_cmpR op_eq (pv 0) pe_str (nomark _))
      (pss_one (ps_ret (pe_gk k_shares hr (pa_cons (pv 1) (pa_cons (pv 2) pa_nil)) (pk_cons (pv 5) pk_nil))))
      pss_nil)
      (pss_cons (ps_if (pt_cmpR op_eq (pv 0) pe_str (nomark _))
      (pss_one (ps_ret (pe_gk k_left hr (pa_cons (pv 1) (pa_cons (pv 2) pa_nil)) (pk_cons (pv 5) pk_nil))))
      pss_nil)
      (pss_cons (ps_if (pt_cmpR op_eq (pv 0) pe_str (nomark _))
      (pss_one (ps_ret (pe_gk k_taker hr (pa_cons (pv 1) (pa_cons (pv 2) (pa_cons (pv 3) pa_nil))) (pk_cons (pv 5) pk_nil))))
      pss_nil)
      (pss_cons (ps_if (pt_cmpR op_eq (pv 0) pe_str (nomark _))
      (pss_one (ps_ret (pe_gk k_gains hr (pa_cons (pv 1) (pa_cons (pv 2) pa_nil)) (pk_cons (pv 5) pk_nil))))
      pss_nil)
      (pss_cons (ps_if (pt_cmpR op_eq (pv 0) pe_str (nomark _))
      (pss_one (ps_ret (pe_gk k_dishes hr (pa_cons (pv 1) (pa_cons (pv 3) pa_nil)) (pk_cons (pv 5) pk_nil))))
      pss_nil)
      (pss_cons (ps_if (pt_cmpR op_eq (pv 0) pe_str (nomark _))
      (pss_one (ps_ret (pe_gk k_least_dish hr (pa_cons (pv 1) (pa_cons (pv 3) pa_nil)) (pk_cons (pv 5) pk_nil))))
      pss_nil)
      (pss_cons (ps_if (pt_cmpR op_eq (pv 0) pe_str (nomark _))
      (pss_one (ps_ret (pe_gk k_courtesies hr (pa_cons (pv 1) (pa_cons (pv 2) (pa_cons (pv 3) (pa_cons (pv 4) pa_nil)))) (pk_cons (pv 5) pk_nil))))
      pss_nil)
      (pss_one (ps_ret (pe_gk k_enoughs hr (pa_cons (pv 1) (pa_cons (pv 2) (pa_cons (pv 3) (pa_cons (pv 4) pa_nil)))) (pk_cons (pv 5) pk_nil))))))))))), ?_⟩
    cases th with
    | shares v =>
      refine ⟨_, rfl, rfl, _, rfl, word_eq ?_⟩
      exact ⟨_, rfl, _, rfl, _, rfl, rfl, rfl, ta, t, fs, d, rfl, tb, ok, hf, d0, d1, fun l H1 s1 _ _ => q _ _ (Same.evn s1) (Same.tabs s1 hT)⟩
    | left v =>
      refine ⟨_, rfl, rfl, _, rfl, word_ne (by decide) (next_mk ?_)⟩
      refine ⟨_, rfl, rfl, _, rfl, word_eq ?_⟩
      exact ⟨_, rfl, _, rfl, _, rfl, rfl, rfl, ta, t, fs, d, rfl, tb, ok, hf, d0, d1, fun H1 s1 => q _ _ (Same.evn s1) (Same.tabs s1 hT)⟩
    | taker b h1 h2 =>
      refine ⟨_, rfl, rfl, _, rfl, word_ne (by decide) (next_mk ?_)⟩
      refine ⟨_, rfl, rfl, _, rfl, word_ne (by decide) (next_mk ?_)⟩
      refine ⟨_, rfl, rfl, _, rfl, word_eq ?_⟩
      exact ⟨_, rfl, _, rfl, _, rfl, _, rfl, rfl, rfl, ta, t, fs, d, b, rfl, tb, ok, hf, d0, d1, h1, h2, fun H1 s1 _ => q _ _ (Same.evn s1) (Same.tabs s1 hT), fun _ _ H1 s1 _ _ _ => q _ _ (Same.evn s1) (Same.tabs s1 hT)⟩
    | gains v =>
      refine ⟨_, rfl, rfl, _, rfl, word_ne (by decide) (next_mk ?_)⟩
      refine ⟨_, rfl, rfl, _, rfl, word_ne (by decide) (next_mk ?_)⟩
      refine ⟨_, rfl, rfl, _, rfl, word_ne (by decide) (next_mk ?_)⟩
      refine ⟨_, rfl, rfl, _, rfl, word_eq ?_⟩
      exact ⟨_, rfl, _, rfl, _, rfl, rfl, rfl, ta, t, fs, d, rfl, tb, ok, hf, d0, d1, fun _ H1 s1 _ => q _ _ (Same.evn s1) (Same.tabs s1 hT)⟩
    | dishes a ns h1 h2 h3 =>
      refine ⟨_, rfl, rfl, _, rfl, word_ne (by decide) (next_mk ?_)⟩
      refine ⟨_, rfl, rfl, _, rfl, word_ne (by decide) (next_mk ?_)⟩
      refine ⟨_, rfl, rfl, _, rfl, word_ne (by decide) (next_mk ?_)⟩
      refine ⟨_, rfl, rfl, _, rfl, word_ne (by decide) (next_mk ?_)⟩
      refine ⟨_, rfl, rfl, _, rfl, word_eq ?_⟩
      exact ⟨_, rfl, _, rfl, _, rfl, rfl, rfl, ta, a, t, fs, ns, rfl, tb, ok, hf, h1, h2, h3, hT, fun v _ H1 e1 hT1 _ _ => q v H1 e1 hT1⟩
    | least a ns h1 h2 h3 =>
      refine ⟨_, rfl, rfl, _, rfl, word_ne (by decide) (next_mk ?_)⟩
      refine ⟨_, rfl, rfl, _, rfl, word_ne (by decide) (next_mk ?_)⟩
      refine ⟨_, rfl, rfl, _, rfl, word_ne (by decide) (next_mk ?_)⟩
      refine ⟨_, rfl, rfl, _, rfl, word_ne (by decide) (next_mk ?_)⟩
      refine ⟨_, rfl, rfl, _, rfl, word_ne (by decide) (next_mk ?_)⟩
      refine ⟨_, rfl, rfl, _, rfl, word_eq ?_⟩
      exact ⟨_, rfl, _, rfl, _, rfl, rfl, rfl, ta, a, t, fs, ns, rfl, tb, ok, hf, h1, h2, h3, hT, fun _ H1 e1 hT1 _ => q _ H1 e1 hT1⟩
    | courtesies a ns h1 h2 h3 =>
      refine ⟨_, rfl, rfl, _, rfl, word_ne (by decide) (next_mk ?_)⟩
      refine ⟨_, rfl, rfl, _, rfl, word_ne (by decide) (next_mk ?_)⟩
      refine ⟨_, rfl, rfl, _, rfl, word_ne (by decide) (next_mk ?_)⟩
      refine ⟨_, rfl, rfl, _, rfl, word_ne (by decide) (next_mk ?_)⟩
      refine ⟨_, rfl, rfl, _, rfl, word_ne (by decide) (next_mk ?_)⟩
      refine ⟨_, rfl, rfl, _, rfl, word_ne (by decide) (next_mk ?_)⟩
      refine ⟨_, rfl, rfl, _, rfl, word_eq ?_⟩
      exact ⟨_, rfl, _, rfl, _, rfl, _, rfl, _, rfl, rfl, rfl, ta, a, t, d, ns, p, fs, rfl, tb, ok, d0, d1, h1, h2, h3, hp, hf, hT, fun v _ H1 e1 hT1 _ _ => q v H1 e1 hT1⟩
    | enoughs a ns h1 h2 h3 =>
      refine ⟨_, rfl, rfl, _, rfl, word_ne (by decide) (next_mk ?_)⟩
      refine ⟨_, rfl, rfl, _, rfl, word_ne (by decide) (next_mk ?_)⟩
      refine ⟨_, rfl, rfl, _, rfl, word_ne (by decide) (next_mk ?_)⟩
      refine ⟨_, rfl, rfl, _, rfl, word_ne (by decide) (next_mk ?_)⟩
      refine ⟨_, rfl, rfl, _, rfl, word_ne (by decide) (next_mk ?_)⟩
      refine ⟨_, rfl, rfl, _, rfl, word_ne (by decide) (next_mk ?_)⟩
      refine ⟨_, rfl, rfl, _, rfl, word_ne (by decide) (next_mk ?_)⟩
      exact ⟨_, rfl, _, rfl, _, rfl, _, rfl, _, rfl, rfl, rfl, ta, a, t, d, ns, p, fs, rfl, tb, ok, d0, d1, h1, h2, h3, hp, hf, hT, fun v _ H1 e1 hT1 _ _ => q v H1 e1 hT1⟩
def xpAskedL (K : PySem.W.Frag) (N : Errs) : Sp := fun vs H _ E => ∃ (word : Str) (t d h s b : V) (cs : List Chk), vs = [.str word, t, d, h, s, b] ∧ Asks word t d h s b cs ∧ Looks K N H (fun _ _ => False) E cs
theorem ok_xasked {N : Errs} {f : Addr} {fd : FuncData} (F : L2.Fun K "_law_asked" "_law_asked" s_law_asked f fd) (x_shares : CalXK P w K mg base 6 2 "shares" (xpDoor K N 3 mk3)) (x_left : CalXK P w K mg base 6 2 "left" (xpDoor K N 3 mk3)) (x_taker : CalXK P w K mg base 6 3 "taker" (xpDoor K N 4 mkTake)) (x_gains : CalXK P w K mg base 6 2 "gains" (xpDoor K N 3 mk3)) (x_dishes : CalXK P w K mg base 9 2 "dishes" (xpDoor K N 3 mkDish)) (x_least_dish : CalXK P w K mg base 9 2 "least_dish" (xpDoor K N 3 mkDish))
    (x_courtesies : CalXK P w K mg base 8 4 "courtesies" (xpDoor K N 5 mkFit)) (x_enoughs : CalXK P w K mg base 8 4 "enoughs" (xpDoor K N 5 mkFit)) : FnOk P w K mg base (L2N.CX P w) 10 f fd ["word", "table", "dish", "third", "seat", "begin"] (xpAskedL K N) := by
  refine ok_raise F sc_law_asked (fun vs H Q E h => ?_) (fun cdv A outer s H vs Q E hr h => ?_)
  · obtain ⟨_, _, _, _, _, _, _, rfl, _⟩ := h
    rfl
  · obtain ⟨word, t, d, h, sv, b, cs, rfl, ak, lk⟩ := h
    refine ⟨_, (pss_cons (ps_if (pt_cmpR op_eq (pv 0) pe_str (nomark _))
      (pss_one (ps_ret (pe_gkX x_shares hr (L2N.takes_of rfl rfl rfl rfl) (pa_cons (pv 1) (pa_cons (pv 2) pa_nil)) (pk_cons (pv 5) pk_nil))))
      pss_nil)
      (pss_cons (ps_if (pt_cmpR op_eq (pv 0) pe_str (nomark _))
      (pss_one (ps_ret (pe_gkX x_left hr (L2N.takes_of rfl rfl rfl rfl) (pa_cons (pv 1) (pa_cons (pv 2) pa_nil)) (pk_cons (pv 5) pk_nil))))
      pss_nil)
      (pss_cons (ps_if (pt_cmpR op_eq (pv 0) pe_str (nomark _))
      (pss_one (ps_ret (pe_gkX x_taker hr (L2N.takes_of rfl rfl rfl rfl) (pa_cons (pv 1) (pa_cons (pv 2) (pa_cons (pv 3) pa_nil))) (pk_cons (pv 5) pk_nil))))
      pss_nil)
      (pss_cons (ps_if (pt_cmpR op_eq (pv 0) pe_str (nomark _))
      (pss_one (ps_ret (pe_gkX x_gains hr (L2N.takes_of rfl rfl rfl rfl) (pa_cons (pv 1) (pa_cons (pv 2) pa_nil)) (pk_cons (pv 5) pk_nil))))
      pss_nil)
      (pss_cons (ps_if (pt_cmpR op_eq (pv 0) pe_str (nomark _))
      (pss_one (ps_ret (pe_gkX x_dishes hr (L2N.takes_of rfl rfl rfl rfl) (pa_cons (pv 1) (pa_cons (pv 3) pa_nil)) (pk_cons (pv 5) pk_nil))))
      pss_nil)
      (pss_cons (ps_if (pt_cmpR op_eq (pv 0) pe_str (nomark _))
      (pss_one (ps_ret (pe_gkX x_least_dish hr (L2N.takes_of rfl rfl rfl rfl) (pa_cons (pv 1) (pa_cons (pv 3) pa_nil)) (pk_cons (pv 5) pk_nil))))
      pss_nil)
      (pss_cons (ps_if (pt_cmpR op_eq (pv 0) pe_str (nomark _))
      (pss_one (ps_ret (pe_gkX x_courtesies hr (L2N.takes_of rfl rfl rfl rfl) (pa_cons (pv 1) (pa_cons (pv 2) (pa_cons (pv 3) (pa_cons (pv 4) pa_nil)))) (pk_cons (pv 5) pk_nil))))
      pss_nil)
      (pss_one (ps_ret (pe_gkX x_enoughs hr (L2N.takes_of rfl rfl rfl rfl) (pa_cons (pv 1) (pa_cons (pv 2) (pa_cons (pv 3) (pa_cons (pv 4) pa_nil)))) (pk_cons (pv 5) pk_nil))))))))))), ?_⟩
    have lk' := Looks.split (cs2 := []) (Q' := fun _ _ => False) (by rw [List.append_nil]; exact lk) fun H1 s1 h => h _ (Same.refl _)
    cases ak with
    | shares =>
      refine ⟨_, rfl, rfl, _, rfl, word_eq ?_⟩
      exact ⟨_, rfl, _, rfl, _, rfl, rfl, rfl, rfl, lk⟩
    | left =>
      refine ⟨_, rfl, rfl, _, rfl, word_ne (by decide) (next_mk ?_)⟩
      refine ⟨_, rfl, rfl, _, rfl, word_eq ?_⟩
      exact ⟨_, rfl, _, rfl, _, rfl, rfl, rfl, rfl, lk⟩
    | taker =>
      refine ⟨_, rfl, rfl, _, rfl, word_ne (by decide) (next_mk ?_)⟩
      refine ⟨_, rfl, rfl, _, rfl, word_ne (by decide) (next_mk ?_)⟩
      refine ⟨_, rfl, rfl, _, rfl, word_eq ?_⟩
      exact ⟨_, rfl, _, rfl, _, rfl, _, rfl, rfl, rfl, rfl, lk⟩
    | gains =>
      refine ⟨_, rfl, rfl, _, rfl, word_ne (by decide) (next_mk ?_)⟩
      refine ⟨_, rfl, rfl, _, rfl, word_ne (by decide) (next_mk ?_)⟩
      refine ⟨_, rfl, rfl, _, rfl, word_ne (by decide) (next_mk ?_)⟩
      refine ⟨_, rfl, rfl, _, rfl, word_eq ?_⟩
      exact ⟨_, rfl, _, rfl, _, rfl, rfl, rfl, rfl, lk⟩
    | dishes =>
      refine ⟨_, rfl, rfl, _, rfl, word_ne (by decide) (next_mk ?_)⟩
      refine ⟨_, rfl, rfl, _, rfl, word_ne (by decide) (next_mk ?_)⟩
      refine ⟨_, rfl, rfl, _, rfl, word_ne (by decide) (next_mk ?_)⟩
      refine ⟨_, rfl, rfl, _, rfl, word_ne (by decide) (next_mk ?_)⟩
      refine ⟨_, rfl, rfl, _, rfl, word_eq ?_⟩
      exact ⟨_, rfl, _, rfl, _, rfl, rfl, rfl, rfl, lk⟩
    | least =>
      refine ⟨_, rfl, rfl, _, rfl, word_ne (by decide) (next_mk ?_)⟩
      refine ⟨_, rfl, rfl, _, rfl, word_ne (by decide) (next_mk ?_)⟩
      refine ⟨_, rfl, rfl, _, rfl, word_ne (by decide) (next_mk ?_)⟩
      refine ⟨_, rfl, rfl, _, rfl, word_ne (by decide) (next_mk ?_)⟩
      refine ⟨_, rfl, rfl, _, rfl, word_ne (by decide) (next_mk ?_)⟩
      refine ⟨_, rfl, rfl, _, rfl, word_eq ?_⟩
      exact ⟨_, rfl, _, rfl, _, rfl, rfl, rfl, rfl, lk⟩
    | courtesies =>
      refine ⟨_, rfl, rfl, _, rfl, word_ne (by decide) (next_mk ?_)⟩
      refine ⟨_, rfl, rfl, _, rfl, word_ne (by decide) (next_mk ?_)⟩
      refine ⟨_, rfl, rfl, _, rfl, word_ne (by decide) (next_mk ?_)⟩
      refine ⟨_, rfl, rfl, _, rfl, word_ne (by decide) (next_mk ?_)⟩
      refine ⟨_, rfl, rfl, _, rfl, word_ne (by decide) (next_mk ?_)⟩
      refine ⟨_, rfl, rfl, _, rfl, word_ne (by decide) (next_mk ?_)⟩
      refine ⟨_, rfl, rfl, _, rfl, word_eq ?_⟩
      exact ⟨_, rfl, _, rfl, _, rfl, _, rfl, _, rfl, rfl, rfl, rfl, lk⟩
    | enoughs =>
      refine ⟨_, rfl, rfl, _, rfl, word_ne (by decide) (next_mk ?_)⟩
      refine ⟨_, rfl, rfl, _, rfl, word_ne (by decide) (next_mk ?_)⟩
      refine ⟨_, rfl, rfl, _, rfl, word_ne (by decide) (next_mk ?_)⟩
      refine ⟨_, rfl, rfl, _, rfl, word_ne (by decide) (next_mk ?_)⟩
      refine ⟨_, rfl, rfl, _, rfl, word_ne (by decide) (next_mk ?_)⟩
      refine ⟨_, rfl, rfl, _, rfl, word_ne (by decide) (next_mk ?_)⟩
      refine ⟨_, rfl, rfl, _, rfl, word_ne (by decide) (next_mk ?_)⟩
      exact ⟨_, rfl, _, rfl, _, rfl, _, rfl, _, rfl, rfl, rfl, rfl, lk⟩
end
end Lp
namespace HotX
open PySem PySem.Spec PyProof.Rows
/-! ### the end of a walk while an exception is handled -/
section
variable {prog : Program} {w : World} {A : Around} {E : Value → Shared → Prop} {s : Shared}
theorem list_over_hot {it q x1 : Addr} {n : Nat} {its} {Qn : Option Value → Shared → Prop} (hot : HotAt A x1 s.heap) (gi : s.heap.IsListIter it q n) (gq : s.heap.IsList q its) (over : its[n]? = none)
    (fin : ∀ g, Heap.ExtBut it s.heap g → Qn none { s with heap := g }) : wpAny (model prog w) A (pyNext (.ref it)) Qn E s := by
  obtain ⟨hh1, o1, vs1, b1, d1, c1⟩ := hot; obtain ⟨ob, go, gc, gd⟩ := id gi
  have apart : x1 ≠ it := fun z => by
    rw [z, go] at b1; cases b1; rw [gd] at d1; cases d1; cases c1
  obtain ⟨oq, goq, _, nq, gdq⟩ := gq
  unfold pyNext; refine wpAny_bind (wpAny_attempt (wpAny_callSpecial?_slot (name := Str.ofString "__next__") gi.typeIs slot_listiter_next (wpAny_call_entry slot_listiter_next gi.typeIs entry_listiter_next ?_ (args_listiter_next _))))
  show wpAny _ _ (field (.ref it) 0 >>= _) _ _ s; refine wpAny_bind (wpAny_field go gd (x := .ref q) rfl ?_)
  show wpAny _ _ (if (Value.ref q == Value.none) = true then _ else _) _ _ s; rw [if_neg (show ¬ ((Value.ref q == Value.none) = true) from Bool.false_ne_true)]
  show wpAny _ _ (field (.ref it) 1 >>= _) _ _ s; refine wpAny_bind (wpAny_field go gd (x := .int n 0) rfl ?_)
  show wpAny _ _ (seqItems? (.ref q) >>= _) _ _ s; refine wpAny_bind (wpAny_seqItems goq gdq ?_); simp only [Int.toNat_natCast, over]
  refine wpAny_bind (wpAny_rule (wpAny_bind (wpAny_setField go gd (by simp) ?_))); show wpAny _ _ (newExc (.type "StopIteration") [] >>= _) _ _ _
  refine wpAny_bind ?_; simp only [newExc, newTuple]; refine wpAny_bind (wpAny_newObj_type ?_ (by size_fits))
  refine wpAny_bind (m := firstArgMember _ _) (wpAny_of_eq (a := Value.none) (by first | rfl | (simp only [firstArgMember]; rfl)) ?_); refine wpAny_newObj_type ?_ (by size_fits)
  have st : ∀ (F : Obj → Obj) (b : Addr) (u : Obj), b ≠ it → s.heap.get? b = some u → (s.heap.update it F).get? b = some u := fun F b u nb e => (Heap.get?_update_other _ _ (Ne.symm nb)).trans e
  refine raiseNew_hot (x1 := x1) ⟨hh1, o1, vs1, Heap.get?_push_of_some _ (Heap.get?_push_of_some _ (st _ _ _ apart b1)), d1, c1⟩ (Nat.ne_of_lt (Heap.lt_size (Heap.get?_push_of_some _ (st _ _ _ apart b1)))) (Heap.get?_push_size _ rfl) rfl (by simp <;> omega) ?_
  refine wpAny_bind (wpAny_isInstance (T := "StopIteration") (b := true) ⟨_, Heap.get?_update_self _ (Heap.get?_push_size _ rfl) rfl, rfl⟩ isSubtype_stop ?_); refine wpAny_pure (fin _ fun b u nb e => ?_)
  exact (Heap.get?_update_other _ _ (Nat.ne_of_gt (Heap.lt_size (Heap.get?_push_of_some _ (st _ _ _ nb e))))).trans (Heap.get?_push_of_some _ (Heap.get?_push_of_some _ (st _ _ _ nb e)))
theorem tuple_over_hot {it q x1 : Addr} {n : Nat} {its} {Qn : Option Value → Shared → Prop} (hot : HotAt A x1 s.heap) (gi : IsTupIter s.heap it q n) (gq : IsTup s.heap q its) (over : its[n]? = none)
    (fin : ∀ g, Heap.ExtBut it s.heap g → Qn none { s with heap := g }) : wpAny (model prog w) A (pyNext (.ref it)) Qn E s := by
  obtain ⟨hh1, o1, vs1, b1, d1, c1⟩ := hot; obtain ⟨ob, go, gc, gd⟩ := id gi
  have apart : x1 ≠ it := fun z => by
    rw [z, go] at b1; cases b1; rw [gd] at d1; cases d1; cases c1
  obtain ⟨oq, goq, _, nq, gdq⟩ := gq
  unfold pyNext; refine wpAny_bind (wpAny_attempt (wpAny_callSpecial?_slot (name := Str.ofString "__next__") gi.typeIs slot_tupleiter_next (wpAny_call_entry slot_tupleiter_next gi.typeIs entry_tupleiter_next ?_ (args_tupleiter_next _))))
  show wpAny _ _ (field (.ref it) 0 >>= _) _ _ s; refine wpAny_bind (wpAny_field go gd (x := .ref q) rfl ?_)
  show wpAny _ _ (if (Value.ref q == Value.none) = true then _ else _) _ _ s; rw [if_neg (show ¬ ((Value.ref q == Value.none) = true) from Bool.false_ne_true)]
  show wpAny _ _ (field (.ref it) 1 >>= _) _ _ s; refine wpAny_bind (wpAny_field go gd (x := .int n 0) rfl ?_)
  show wpAny _ _ (seqItems? (.ref q) >>= _) _ _ s; refine wpAny_bind (wpAny_seqItems goq gdq ?_); simp only [Int.toNat_natCast, over]
  refine wpAny_bind (wpAny_rule (wpAny_bind (wpAny_setField go gd (by simp) ?_))); show wpAny _ _ (newExc (.type "StopIteration") [] >>= _) _ _ _
  refine wpAny_bind ?_; simp only [newExc, newTuple]; refine wpAny_bind (wpAny_newObj_type ?_ (by size_fits))
  refine wpAny_bind (m := firstArgMember _ _) (wpAny_of_eq (a := Value.none) (by first | rfl | (simp only [firstArgMember]; rfl)) ?_); refine wpAny_newObj_type ?_ (by size_fits)
  have st : ∀ (F : Obj → Obj) (b : Addr) (u : Obj), b ≠ it → s.heap.get? b = some u → (s.heap.update it F).get? b = some u := fun F b u nb e => (Heap.get?_update_other _ _ (Ne.symm nb)).trans e
  refine raiseNew_hot (x1 := x1) ⟨hh1, o1, vs1, Heap.get?_push_of_some _ (Heap.get?_push_of_some _ (st _ _ _ apart b1)), d1, c1⟩ (Nat.ne_of_lt (Heap.lt_size (Heap.get?_push_of_some _ (st _ _ _ apart b1)))) (Heap.get?_push_size _ rfl) rfl (by simp <;> omega) ?_
  refine wpAny_bind (wpAny_isInstance (T := "StopIteration") (b := true) ⟨_, Heap.get?_update_self _ (Heap.get?_push_size _ rfl) rfl, rfl⟩ isSubtype_stop ?_); refine wpAny_pure (fin _ fun b u nb e => ?_)
  exact (Heap.get?_update_other _ _ (Nat.ne_of_gt (Heap.lt_size (Heap.get?_push_of_some _ (st _ _ _ nb e))))).trans (Heap.get?_push_of_some _ (Heap.get?_push_of_some _ (st _ _ _ nb e)))
/-- a tuple's items, all of them -/
theorem tuple_apart_hot {t x1 : Addr} {its : Array Value} {Qn : List Value → Shared → Prop} (hot : HotAt A x1 s.heap) (gt : IsTup s.heap t its) (fin : ∀ g, Heap.ExtBut s.heap.objs.size s.heap g → Qn its.toList { s with heap := g }) :
    wpAny (model prog w) A (unpackItems (.ref t) its.size none) Qn E s := by
  obtain ⟨hh, o1, vs1, b1, d1, c1⟩ := hot
  have less : t ≠ s.heap.objs.size := Nat.ne_of_lt (Heap.lt_size gt.choose_spec.1)
  unfold unpackItems; refine wpAny_bind ?_; unfold notIterableAtAll
  refine wpAny_bind (wpAny_specialOf gt.typeIs slot_tuple_iter.lookup ?_); refine wpAny_pure ?_; simp only [Bool.false_eq_true, if_false]
  refine wpAny_bind (wpAny_holding (iter_tuple gt ?_)); refine wpAny_bind (wpAny_holding (draw_tuple less its.size 0 _ _ ⟨_, Heap.get?_push_size _ rfl, rfl, rfl⟩ (gt.push _) (by omega) fun g1 i1 k1 => ?_))
  rw [show List.take its.size (List.drop 0 its.toList) = its.toList from by rw [List.drop_zero]; exact List.take_of_length_le (by simp), if_neg (by simp)]
  have t1 : IsTup g1 t its := (gt.push _).extBut k1.extBut less
  have b2 := k1.extBut x1 o1 (Nat.ne_of_lt (Heap.lt_size b1)) (Heap.get?_push_of_some _ b1)
  refine wpAny_bind (wpAny_holding (tuple_over_hot ⟨hh, o1, vs1, b2, d1, c1⟩ i1 t1 (by simp) fun g2 k2 => ?_)); simp only [Option.isSome_none, Bool.false_eq_true, if_false]
  exact wpAny_pure (fin g2 fun b u nb e => k2 b u nb (k1.extBut b u nb (Heap.get?_push_of_some _ e)))
theorem assign_tuple_hot {env : Env} {es : List Expr} {j} {pos : Pos} {t x1 : Addr} {its : Array Value} {Qn : Unit → Shared → Prop} (hot : HotAt A x1 s.heap) (gt : IsTup s.heap t its) (len : (assignEach es env).length = its.size) (star : (assignEach es env).findIdx? (·.1) = none)
    (go : ∀ g, Heap.ExtBut s.heap.objs.size s.heap g → wpAny (model prog w) A (assignInOrder ((assignEach es env).map (·.2)) its.toList) Qn E { s with heap := g }) : wpAny (model prog w) A (assign (.Tuple es j pos) env (.ref t)) Qn E s := by
  rw [assign_Tuple]; refine wpAny_bind (wpAny_standAt ?_); unfold unpack; rw [len, star]; exact wpAny_bind (wpAny_holding (tuple_apart_hot hot gt go))
end
end HotX
namespace Lp
open PySem PySem.Spec PyProof.Rows L2 L2H HotX
section
variable {X : Cx} {pos : Pos}
theorem pg_tupH {es : List Expr} {j : Nat} {t : TGs} {n : Nat} (hc : HotC X) (h : PGs X es t) (len : (assignEach es X.env).length = n := by rfl) (star : (assignEach es X.env).findIdx? (·.1) = none := by rfl) : PG X (.Tuple es j pos) (gTup X.K n t) := by
  constructor
  intro pins s σ H v u Qn I r hw
  obtain ⟨a, xs, rfl, hq, hl, hw⟩ := hw
  cases r
  obtain ⟨its, rv, ht, hz⟩ := I.tuple hq
  obtain ⟨x1, hot⟩ := hc.at I
  refine assign_tuple_hot hot ht (by simp [len, ← hl, rv.length]) star fun g hx => ?_
  exact h.run pins _ σ H xs _ Qn (I.kept (t' := s.toks) fun b o e => hx b o (Nat.ne_of_lt (Heap.lt_size e)) e) (by simpa using rv) hw
end
end Lp
namespace Lp
open PySem PySem.Spec PyProof.Rows L2 L2H HotX
/-- the context of a block that starts while the exception p is handled -/
abbrev blkP (X : Cx) (p : Addr × Obj) (s : Shared) (H : Hp) (scope : Scope) (cenv : Env) (fp : List Addr) : Cx := { X.blk s H scope cenv fp with pn := [p] }
section
variable {X : Cx}
/-- the exception that is handled is none of what the block has -/
theorem pinned_block {p : Addr × Obj} {pins : List (Addr × Obj)} {σ σ' : L2.St} {H : Hp} {s s' : Shared} {scope : Scope} {cenv : Env} {fp : List Addr} (hp : p ∈ X.pn) (I : Inv X pins σ H s) (J : Inv (X.blk s H scope cenv fp) [] σ' H s')
    (new : s.heap.objs.size ≤ cenv.locals) (nfp : p.1 ∉ fp) : Inv (blkP X p s H scope cenv fp) [] σ' H s' := by
  obtain ⟨p1, p2, p3, p4, p5⟩ := I.pin p (List.mem_append_left _ hp)
  have nst : p.1 ∉ frs X.stack := fun hm => by
    rcases I.ok.stk with e | ⟨e, ef⟩
    · rw [e] at hm; exact p4 hm
    · rw [e] at hm
      obtain ⟨c, hc, ec⟩ := List.mem_filterMap.mp hm
      rcases List.mem_cons.mp hc with z | z
      · rw [z, ef] at ec; exact p3 (Option.some.inj ec).symm
      · exact p4 (List.mem_filterMap.mpr ⟨c, z, ec⟩)
  refine ⟨⟨J.ok.mod, J.ok.kind, J.ok.glob, J.ok.blt, J.ok.above, J.ok.inj, J.ok.has, J.ok.cab, J.ok.hd, J.ok.frames, J.ok.stk, J.ok.exf, J.ok.bs, J.ok.bsz, J.ok.noex, J.ok.exfs, J.ok.funs, J.ok.frf⟩, J.os, J.bare, J.base, J.loc, J.cell, J.free, J.freeC, fun r hr => ?_, J.hok, J.len⟩
  have er : r = p := by simpa using (show r ∈ [p] ++ ([] : List (Addr × Obj)) from hr)
  rw [er]
  exact ⟨J.base.keep _ _ p1 p2 nst nfp, p2, Nat.ne_of_lt (Nat.lt_of_lt_of_le (Heap.lt_size p1) new), nst, p5⟩
theorem lc_hot {pins : List (Addr × Obj)} {s : Shared} {σ : L2.St} {H : Hp} {Q : VK} {elt tg iter : Expr} {ifs : List Expr} {scope : Scope} {own : List (Str × Nat)} {pos pos' : Pos} {wi : TI} {g : TG} {tt : TT} {te : TE} {use : Option (Value → Sem Unit)} {Qf : Value → Shared → Prop}
    (bears : HotC X) (hN : X.N.Nodup) (I : Inv X pins σ H s) (hi : PIH X tg iter wi) (ok : BlkOk X.N X.env.scope scope own)
    (hg : ∀ (p : Addr × Obj), Hot1 X.A p → ∀ (s : Shared) (H : Hp) (C : Addr) (cl : List (Str × Addr)) (fp : List Addr), PG (blkP X p s H scope (compEnvC scope cl C X.env) fp) tg g) (ht : ∀ (p : Addr × Obj), Hot1 X.A p → ∀ (s : Shared) (H : Hp) (C : Addr) (cl : List (Str × Addr)) (fp : List Addr), PTs (blkP X p s H scope (compEnvC scope cl C X.env) fp) ifs tt)
    (he : ∀ (p : Addr × Obj), Hot1 X.A p → ∀ (s : Shared) (H : Hp) (C : Addr) (cl : List (Str × Addr)) (fp : List Addr), PE (blkP X p s H scope (compEnvC scope cl C X.env) fp) elt te) (hs : ∀ x, foldedSetIterable iter X.env x = pure x)
    (h : tLc wi g tt te (own.map (·.2)) σ H Q)
    (back : ∀ D C s' m H', Inv X pins σ H' s' → Q (.ref D) H' → s'.heap.Ns C m → FpOk X pins H' C → compPost (model X.prog X.w) X.A X.xe use Qf (.ref D) C (.ok .next) s') :
    wpAny (model X.prog X.w) X.A (comprehension (.ListComp elt [⟨tg, iter, ifs, 0⟩] scope pos) scope X.env pos' (newList []) false (eval iter X.env) use) Qf X.xe s := by
  obtain ⟨p, hot1, hp⟩ := bears
  have caps : ∀ y ∈ scope.names, y.2 = .free → ∃ c, X.env.cells.lookup y.1 = some c := fun y hy eq => by
    rcases ok.free y hy eq with k | k
    · exact I.ok.has _ (.inl k)
    · exact I.ok.has _ (.inr k)
  refine wpAny_comprehension_free (use := use) rfl hs (closure_ok caps) ok.kind (fun y hy eq => by rw [ok.uniq y hy, eq])
    (thn (hi.run pins s σ H _ I h) fun seen s1 gx => thn gx fun iter1 s2 g2 => ?_)
  obtain ⟨it, fp, tn, J, H2, eq, J2, Tt, now2, a2, q⟩ := g2
  subst eq
  refine wpAny_newObj_type (newEnv_comp ?_) (by show 0 ≤ sizeLine; decide)
  generalize eD : s2.heap.objs.size = D
  have nD : H2 D = none := J2.hok.fresh (Nat.le_of_eq eD)
  obtain ⟨Ww, ⟨m00, w00⟩, turns⟩ := q D nD
  -- the new list
  generalize es3 : ({ s2 with heap := s2.heap.push { cls := .type "list", data := .seq ([] : List Value).toArray } } : Shared) = s3
  have J3 : Inv X pins σ (upd H2 D (.lst [])) s3 := by
    rw [← es3]
    refine J2.laid (t' := s2.toks) (fun bb ob eq => Heap.get?_push_of_some _ eq) (Nat.le_of_eq eD) ⟨Nat.zero_le _, [], 0, .nil, ?_⟩
    rw [← eD]
    exact Heap.get?_push_size _ rfl
  have g3 : s3.heap = s2.heap.push { cls := .type "list", data := .seq ([] : List Value).toArray } := by rw [← es3]
  have less : ∀ bb ∈ fp, bb < s2.heap.objs.size := fun bb hb => by
    obtain ⟨ob, eq, _⟩ := Tt.obj _ _ now2 bb hb
    exact Heap.lt_size eq
  have a3 : ∀ bb ∈ fp, FpOk X pins (upd H2 D (.lst [])) bb ∧ bb < s3.heap.objs.size := fun bb hb => by
    have hlt := less bb hb
    refine ⟨⟨?_, (a2 bb hb).2⟩, by rw [g3, Heap.size_push]; exact Nat.lt_succ_of_lt hlt⟩
    rw [upd_ne (by rw [← eD]; exact Nat.ne_of_lt hlt)]
    exact (a2 bb hb).1
  have now3 : tn 0 s3.heap := Tt.keep _ _ _ now2 fun bb _ ob eq => by rw [g3]; exact Heap.get?_push_of_some _ eq
  have J4 := pinned_block hp J3 (block_start J3 ok hN a3) (Nat.le_refl _) fun gm => (a3 p.1 gm).1.2.2.2.2.2 p (List.mem_append_left _ hp) rfl
  have pg := hg p hot1 s3 (upd H2 D (.lst [])) s3.heap.objs.size (cellsFrom (s3.heap.objs.size + 1) scope.names (cloFrom X.env.cells scope.names [])) fp
  have pt := ht p hot1 s3 (upd H2 D (.lst [])) s3.heap.objs.size (cellsFrom (s3.heap.objs.size + 1) scope.names (cloFrom X.env.cells scope.names [])) fp
  have pe := he p hot1 s3 (upd H2 D (.lst [])) s3.heap.objs.size (cellsFrom (s3.heap.objs.size + 1) scope.names (cloFrom X.env.cells scope.names [])) fp
  show codeAny _ _ (.compStart (.ListComp elt [⟨tg, iter, ifs, 0⟩] scope pos) 0 (.ref it) (.ref D) (compEnvC scope (cellsFrom (s3.heap.objs.size + 1) scope.names (cloFrom X.env.cells scope.names [])) s3.heap.objs.size X.env)) (compPost (model X.prog X.w) X.A X.xe use Qf (.ref D) s3.heap.objs.size) { s3 with heap := pushCells (s3.heap.push { cls := .type "dict", data := .dict #[] }) scope.names }
  have nfs : ∀ bb ∈ fp, (upd H2 D (.lst [])) bb = none := fun bb hb => (a3 bb hb).1.1
  generalize ece : compEnvC scope (cellsFrom (s3.heap.objs.size + 1) scope.names (cloFrom X.env.cells scope.names [])) s3.heap.objs.size X.env = ce at J4 pg pt pe ⊢
  have eL : ce.locals = s3.heap.objs.size := by subst ece; rfl
  generalize eH3 : upd H2 D (.lst []) = H3 at J3 J4 pg pt pe w00 nfs a3
  generalize es4 : ({ s3 with heap := pushCells (s3.heap.push { cls := .type "dict", data := .dict #[] }) scope.names } : Shared) = s4 at J4 ⊢
  have now4 : tn 0 s4.heap := Tt.keep _ _ _ now3 fun bb _ ob eq => by rw [← es4]; exact pushCells_keeps _ _ _ _ (Heap.get?_push_of_some _ eq)
  have same : ∀ {σ' : L2.St} {H' : Hp} {s' : Shared}, Inv (blkP X p s3 H3 scope ce fp) [] σ' H' s' → (∀ bb ∈ fp, H' bb = none) → ∀ bb ∈ fp, FpOk (blkP X p s3 H3 scope ce fp) [] H' bb := fun {σ' H' s'} I' gn bb hb =>
    ⟨gn bb hb, (I'.ok.exf bb hb).1, I'.ok.exfs bb hb, .inl hb, fun x c eq => (I'.ok.exf bb hb).2 x c eq, fun r er1 => by
      have er : r = p := by simpa using (show r ∈ [p] ++ ([] : List (Addr × Obj)) from er1)
      rw [er]
      exact (a3 bb hb).1.2.2.2.2.2 p (List.mem_append_left _ hp)⟩
  have goes : codeAny (model X.prog X.w) X.A (.compLoop (.ListComp elt [⟨tg, iter, ifs, 0⟩] scope pos) 0 (.ref it) (.ref D) ce) (compPost (model X.prog X.w) X.A X.xe use Qf (.ref D) s3.heap.objs.size) s4 := by
    refine compLoop_any (fun n s' => ∃ i H', Inv (blkP X p s3 H3 scope ce fp) [] (wipe σ (own.map (·.2))) H' s' ∧ tn i s'.heap ∧ (∀ bb ∈ fp, H' bb = none) ∧ Ww i n H') ?_ m00 ⟨0, H3, J4, now4, nfs, w00⟩
    rintro n t5 ⟨i, G5, J5, now5, m5, w5⟩
    rcases turns i n G5 w5 with ⟨stop, qs⟩ | ⟨go, Nx, hNx, step⟩
    · have over := Tt.done (blkP X p s3 H3 scope ce fp) rfl rfl rfl ⟨p, hot1, List.mem_singleton.mpr rfl⟩ i [] t5 _ G5 (fun _ _ => False) J5 (same J5 m5) now5 stop
      refine thnF over fun r t6 ⟨er1, J6⟩ => ?_
      subst er1
      -- back in the def's context
      have J7 : Inv X pins σ G5 t6 := J3.call' (ch := fp) J6.os J6.base J6.hok J6.bare fun bb hb => ⟨(a3 bb hb).1.2.2.2.1, (a3 bb hb).1.2.1, (a3 bb hb).1.2.2.2.2.1, (a3 bb hb).1.2.2.2.2.2⟩
      have fresh : G5 s3.heap.objs.size = none := by
        have zz : G5 ce.locals = none := J6.free
        rw [eL] at zz
        exact zz
      obtain ⟨m, gn, _⟩ := J6.loc
      have gn : t6.heap.Ns ce.locals m := gn
      rw [eL] at gn
      exact back D s3.heap.objs.size t6 m G5 J7 qs gn (J3.fpOk (Nat.le_refl _) fresh)
    · have one := Tt.item (blkP X p s3 H3 scope ce fp) rfl rfl rfl ⟨p, hot1, List.mem_singleton.mpr rfl⟩ i [] t5 _ G5 (fun _ _ => False) J5 (same J5 m5) now5 go
      refine thnF one fun r t6 ⟨uu, er1, g6⟩ => ?_
      subst er1
      refine thnF g6 fun _ t7 ⟨x, G7, J7, r7, y7, now7, m7⟩ => ?_
      have I7' := J7.pinned (same J7 m7) (Tt.obj _ _ now7)
      refine thnF (pg.run _ t7 _ G7 x uu _ I7' r7 (step x G7 y7)) fun _ t8 ⟨σ8, G8, J8, ew8, w8⟩ => ?_
      refine thnF (pt.run _ t8 σ8 G8 _ J8 w8) fun bb t9 ⟨G9, J9, w9⟩ => ?_
      -- the turn's end
      have ends : ∀ {s' : Shared} {H' : Hp}, Inv (blkP X p s3 H3 scope ce fp) ([] ++ pinsAt fp t7.heap) σ8 H' s' → Nx H' → ∃ m, m < n ∧ ∃ i H', Inv (blkP X p s3 H3 scope ce fp) [] (wipe σ (own.map (·.2))) H' s' ∧ tn i s'.heap ∧ (∀ bb ∈ fp, H' bb = none) ∧ Ww i m H' := fun {s' H'} I' next => by
        obtain ⟨m', gm, w'⟩ := hNx H' next
        have pin' : ∀ bb ∈ fp, ∀ ob, t7.heap.get? bb = some ob → s'.heap.get? bb = some ob ∧ H' bb = none := fun bb hb ob eq =>
          let zz := I'.pin (bb, ob) (List.mem_append_right _ (List.mem_append_right _ (mem_pinsAt hb eq)))
          ⟨zz.1, zz.2.1⟩
        have gl : (wipe σ (own.map (·.2))).length = σ8.length := by rw [← ew8, wipe_length]
        refine ⟨m', gm, i + 1, H', (I'.unpinned (pins := [])).weak gl (fun j v eq => ?_), Tt.keep _ _ _ now7 fun bb hb ob eq => (pin' bb hb ob eq).1, fun bb hb => ?_, w'⟩
        · rw [← ew8] at eq
          exact (wipe_some eq).1
        · obtain ⟨ob, eq, _⟩ := Tt.obj _ _ now7 bb hb
          exact (pin' bb hb ob eq).2
      cases bb with
      | false =>
        simp only [Bool.false_eq_true, if_false] at w9 ⊢
        exact ends J9 w9
      | true =>
        simp only [if_true] at w9 ⊢
        refine thnF (pe.run _ t9 σ8 G9 _ J9 w9) fun zz t10 ⟨yv, G10, J10, r10, sofar, hD10, hz10, next⟩ => ?_
        exact app_ok (X := blkP X p s3 H3 scope ce fp) J10 hD10 hz10 r10 fun t11 J11 => ends J11 next
  exact codeAny_compStart_list goes (Tt.self X.A 0 _ _ _ now4 goes)
end
theorem turn_listH {P : Program} {w : World} {K : PySem.W.Frag} {tg : Expr} (a it : Addr) : TurnH P w K tg (Itl K a) [it] it (fun i h => h.IsListIter it a i) := by
  refine ⟨by simp, fun i g now c hc => ?_, fun i g g' now k => now.at fun ob e => k it (by simp) ob e, ?_, ?_, fun _ _ _ _ _ now h => wpAny_pyIter_listiter now h⟩
  · obtain rfl : c = it := by simpa using hc
    obtain ⟨ob, e1, _, e2⟩ := now
    exact ⟨ob, e1, fun v z => by rw [e2] at z; cases z⟩
  · rintro X rfl rfl rfl hot i pins s σ H E I apart now ⟨xs, x, hq, hx⟩
    obtain ⟨its, rv, pl, _⟩ := I.list hq
    obtain ⟨u, hu, ru⟩ := rv.get hx
    obtain ⟨f0, f1, f2, f3, f4, f5⟩ := apart it (by simp)
    refine wpAny_pyNext_list_item now pl.isList (x := u) (by simpa using hu) fun g now' but => ?_
    have J : Inv X pins σ H { s with heap := g } := I.turned (t' := s.toks) (fun c ob hc e => (but.2 c hc).trans e) f0 f1 f3 f4 f5
    obtain ⟨ob, e1, e2, e3⟩ := id now'
    exact ⟨u, rfl, go_of (s := { s with heap := g }) e1 e2 e3 (by decide) ⟨x, H, J, ru, ⟨rfl, fun ys hy => by rw [I.list_inj hy hq]; exact hx⟩, now', fun c hc => (apart c hc).1⟩⟩
  · rintro X rfl rfl rfl hot i pins s σ H E I apart now ⟨xs, hq, hx⟩
    obtain ⟨its, rv, pl, _⟩ := I.list hq
    obtain ⟨f0, f1, f2, f3, f4, f5⟩ := apart it (by simp)
    have len := rv.length
    obtain ⟨x1, ha⟩ := hot.at I
    exact list_over_hot ha now pl.isList (by simp; omega) fun g k => ⟨rfl, I.turned (t' := s.toks) (fun c ob hc e => k c ob hc e) f0 f1 f3 f4 f5⟩
section
variable {X : Cx} {tg : Expr}
theorem pi_listH {l : Expr} {tl : TE} (hl : PE X l tl) : PIH X tg l (iList X.K tl) := by
  constructor
  intro pins s σ H R I h
  refine thn (hl.run pins s σ H _ I h) fun v s1 q => ?_
  obtain ⟨x, H1, I1, r1, a, rfl, ⟨xs, hq⟩, q⟩ := q
  cases r1
  obtain ⟨its, rv, pl, _⟩ := I1.list hq
  refine wpAny_pyIter_list pl.isList ⟨s1.heap.objs.size, [s1.heap.objs.size], _, _, H1, rfl, I1.kept (t' := s1.toks) fun c ob e => Heap.get?_push_of_some _ e, turn_listH a _, ⟨_, Heap.get?_push_size _ rfl, rfl, rfl⟩, fun c hc => ?_, q⟩
  obtain rfl : c = s1.heap.objs.size := by simpa using hc
  exact I1.fpOk (Nat.le_refl _) (I1.hok.fresh (Nat.le_refl _))
end
end Lp
namespace Lp
open PySem PySem.Spec PyProof.Rows L2 LamX NdefX
/-! ### a called value that may raise -/
def VOkX (P : Program) (w : World) (K : PySem.W.Frag) (mg : Str → Option Value) (base : Heap) (k : Nat) (kn : Hp → Prop) (f : Addr) (cl : List (Str × Addr)) (fr : List Str) (sp : List (Option V) → Sp) : Prop :=
  ∀ (A : Around) (outer : List Env) (s : Shared) (H : Hp) (us : List Value) (vs : List V) (ws : List (Option V)) (Q : VK) (E : XK), Room k A → Env0 P w K mg base A outer s H → kn H → CellsAt cl fr ws s.heap H → Vals vs us → sp ws vs H Q E →
    codeAny (model P w) A (.call (.ref f) ⟨us, []⟩) (CR (L2N.CX P w) outer P w H s Q E) s
section
variable {P : Program} {w : World} {K : PySem.W.Frag} {mg : Str → Option Value} {base : Heap} {k j : Nat} {kn : Hp → Prop} {f : Addr} {F : NF} {b : Expr} {cl : List (Str × Addr)} {fr frL ps N : List Str} {js : List Nat} {sp : List (Option V) → Sp}
theorem vokX_lam (S : NScope N ps frL F.scope) (hb : ∀ (pm tup : Value) (us : List Value), us.length = ps.length → bindArgs (PySem.W.kla_fn F.name F.qual F.params b F.scope F.cl pm (.ref F.c) tup) ⟨us, []⟩ = pure (ps.zip us)) (len : ∀ ws vs H Q E, sp ws vs H Q E → vs.length = ps.length)
    (h1 : ∀ y a, F.cl.lookup y = some a → cl.lookup y = some a) (h2 : ∀ y ∈ frL, ∀ a, cl.lookup y = some a → F.cl.lookup y = some a) (h3 : js.map (fun j => fr[j]?) = frL.map some)
    (body : ∀ (A : Around) (outer : List Env) (s : Shared) (H : Hp) (vs : List V) (ws : List (Option V)) (Q : VK) (E : XK), Room k (A.deeper (envF F f s.heap.objs.size)) → KnL f F b H → CellsAt cl fr ws s.heap H → sp ws vs H Q E →
      ∃ t, PE (ncx (L2N.CX P w) P w K mg base N F f A outer s H E) b t ∧ t (startF N vs (js.map (slotAt ws))) H Q) :
    VOkX P w K mg base (k + 1) (KnL f F b) f cl fr sp := fun A outer s H us vs ws Q E hr e0 kn C r q => by
  have lim : s.heap.NoLimit := e0.mod.nolimit.keeps fun x o e => (e0.bs x o e).1
  obtain ⟨pm, tup, ho⟩ := fnL_at e0.hok kn.1
  refine PySem.W.kla_callFunE hr.depth ho rfl S.co S.gen rfl (codeO_at e0.hok kn.2) ?_
  rw [hb pm tup us (by rw [← r.length]; exact len _ _ _ _ _ q)]
  refine wpAny_pure (wpAny_newFunctionEnv S.nocell (fun ⟨n, _⟩ hy => S.par n (List.of_mem_zip hy).1) (fun h₁ ns sb => ⟨lim.fresh _ sb, ?_⟩) S.kind)
  show codeAny _ _ (.expr b (envF F f s.heap.objs.size)) _ _
  have keep : ∀ x o, s.heap.get? x = some o → h₁.get? x = some o := fun x o e => sb.extBut x o (Nat.ne_of_lt (Heap.lt_size e)) (Heap.get?_push_of_some _ e)
  obtain ⟨t, ht, hq⟩ := body A outer s H vs ws Q E (hr.deeper _) kn C q
  have J : Inv (ncx (L2N.CX P w) P w K mg base N F f A outer s H E) [] (startF N vs (js.map (slotAt ws))) H { s with heap := h₁, toks := s.toks + (ps.zip us).length } := inv_startN S hr.hd e0 (len _ _ _ _ _ q) r (cells_sub C h1 h2 h3) ns keep
  refine PySem.W.kla_codeExpr (wpAny_mono (ht.run [] _ _ H Q J hq) (fun v s' z => ?_) fun e s' z => z)
  obtain ⟨x, H', J', rv, q'⟩ := z
  exact ⟨x, H', J'.os, J'.bare, J'.base, J'.hok, rv, q'⟩
end
/-- f(..), f the value that a name holds, and what it may let out -/
def tCallWX (i : Nat) (kn : Hp → Prop) (f : Addr) (sp : Sp) (W : WX) (t : TA) : TE := fun σ H Q => σ[i]? = some (some (.ref f)) ∧ kn H ∧ t σ H fun vs H1 => kn H1 ∧ sp vs H1 Q fun cls d H' => W cls d σ H'
section
variable {X : Cx} {W : WX} {k j i : Nat} {kn : Hp → Prop} {f : Addr} {cl : List (Str × Addr)} {fr : List Str} {ws : List (Option V)} {sp : List (Option V) → Sp} {x : Str} {t : TA} {e : Expr} {es : List Expr} {p pos : Pos}
theorem takesN0 {X : Cx} : L2N.Takes X (fun _ _ _ _ => False) := fun _ _ x => by
  obtain ⟨_, _, _, _, _, _, _, _, _, _, _, _, _, _, _, _, z⟩ := x
  exact z.elim
theorem pe_callWX (V : VOkX X.prog X.w X.K X.mg X.base k kn f cl fr sp) (tk : L2N.Takes X W) (fa : ∀ (hp : Heap) (H : Hp), HOk X.prog X.w H hp → kn H → PySem.W.FnAt f hp) (C : CellsAt cl fr ws X.s_0.heap X.H_0) (hex : X.ex = []) (hr : Room j X.A) (hN : X.N[i]? = some x) (hv : Vis X.env.scope x) (ha : PA X (e :: es) t) (hk : k ≤ j)
    (hd : (x == ("__debug__" : Str)) = false := by decide) (hcd : (x == ("__classdict__" : Str)) = false := by decide)
    (he : starEach (e :: es) X.env = (false, eval e X.env) :: starEach es X.env := by rfl) (hpl : (backTo pos (starEach es X.env)).any (·.1) = false := by rfl) :
    PE X (.Call (.Name x p) (e :: es) [] pos) (tCallWX i kn f (sp ws) W t) := by
  refine ⟨fun pins s σ H Q I ⟨hs, hf, ht⟩ => ?_⟩
  refine wpAny_Call_Name_kw (thn ((pe_var (pos := p) hN hv hd hcd).run pins s σ H (fun v H1 => v = .ref f ∧ H1 = H) I ⟨.ref f, hs, rfl, rfl⟩) fun u s1 ⟨v, H1, I1, r1, ev, eH⟩ => ?_)
  subst ev
  subst eH
  obtain rfl : u = Value.ref f := r1
  refine PySem.W.callWith_F (first := []) (fa _ _ I1.hok hf) (thn (ha.run pos pins s1 σ H1 _ I1 ht) fun us s2 ⟨vs, H2, I2, r, h1, q⟩ => ⟨fa _ _ I2.hok h1, ?_⟩) he hpl
  show wpAny _ _ (call (.ref f) us) _ _ _
  have u2 := I2.base
  rw [hex] at u2
  refine wpAny_call (codeAny_mono (V X.A X.stack s2 H2 us vs ws Q _ (hr.mono hk) I2.env0 h1 (cells_move C u2) r q) fun r s' hq => ?_)
  cases r with
  | error e => exact tk e s' (L2N.XE.of_call I2 (fun _ _ _ h => h) hq)
  | ok fl =>
    cases fl with
    | ret u => exact I2.after hq
    | next => exact False.elim hq
    | brk => exact False.elim hq
    | cont => exact False.elim hq
end
/-! ### in the suite of an except clause -/
section
variable {X : Cx}
theorem suite_hot {a : Addr} {oe : Obj} {cls : Value} {d : Option Addr} {pn : List (Addr × Obj)} (hz : L2N.Zn cls d oe) (hf : ∃ vs, oe.data = .fields vs) : L2H.HotC (X.suite a ((a, oe) :: pn)) := by
  obtain ⟨vs, e⟩ := hf
  exact ⟨(a, oe), ⟨rfl, vs, e, hz.2.2 vs e⟩, List.mem_cons_self⟩
/-- isinstance(e, c), e the name of what is handled, c a class -/
def tIsE (K : PySem.W.Frag) (a : Addr) (cls : Value) (d : Option Addr) (i : Nat) (cv : Value) : TE := fun σ H Q => ∃ (C : Addr) (b : Bool), cls = .ref C ∧ d = none ∧ ExcC K C ∧ PySem.W.kitOne K (.ref C) cv = some b ∧ σ[i]? = some (some (.ref a)) ∧ Q (.bl b) H
theorem pe_isE {a : Addr} {oe : Obj} {cls cv : Value} {c : V} {d : Option Addr} {pn : List (Addr × Obj)} {i : Nat} {e cx : Expr} {p pos : Pos} (hz : L2N.Zn cls d oe) (hf : ∃ vs, oe.data = .fields vs) (B : Bls X.mg) (he : PE (X.suite a ((a, oe) :: pn)) e (tVar i)) (hc : PE (X.suite a ((a, oe) :: pn)) cx (tC c)) (hcv : ∀ u, RelV c u → u = cv) (hg : Gl (X.suite a ((a, oe) :: pn)) "isinstance" := by rfl)
    (hs : starEach (e :: [cx]) X.env = (false, eval e X.env) :: starEach [cx] X.env := by rfl) (hpl : (backTo pos (starEach [cx] X.env)).any (·.1) = false := by rfl) (hs1 : starEach (cx :: []) X.env = (false, eval cx X.env) :: starEach [] X.env := by rfl) : PE (X.suite a ((a, oe) :: pn)) (.Call (.Name "isinstance" p) [e, cx] [] pos) (tIsE X.K a cls d i cv) := by
  refine ⟨fun pins s σ H Q I h => ?_⟩
  obtain ⟨C, b, rfl, rfl, exc, kit, at1, q⟩ := h
  exact (pe_callB (call_isE exc hz.zc hf) hg B.isinstance (by decide +kernel) (pa_cons he (pa_cons hc pa_nil hs1) hs) (by decide) (by decide) hs hpl).run pins s σ H Q I ⟨_, at1, c, cv, b, rfl, hcv, kit, q⟩
theorem ps_setLcH {i : Nat} {y : Str} {py : Pos} {elt tg iter : Expr} {ifs : List Expr} {scope : Scope} {own : List (Str × Nat)} {pos spos : Pos} {wi : TI} {g : TG} {tt : TT} {te : TE} (bears : L2H.HotC X) (hN : X.N.Nodup) (hy : X.N[i]? = some y) (hyl : X.env.scope.names.lookup y = some .local)
    (hsw : swapsWith (.ListComp elt [⟨tg, iter, ifs, 0⟩] scope pos) (some (.Name y py)) spos.line X.env = pure true) (hi : L2H.PIH X tg iter wi) (ok : BlkOk X.N X.env.scope scope own)
    (hg : ∀ (p : Addr × Obj), L2H.Hot1 X.A p → ∀ (s : Shared) (H : Hp) (C : Addr) (cl : List (Str × Addr)) (fp : List Addr), PG (blkP X p s H scope (compEnvC scope cl C X.env) fp) tg g) (ht : ∀ (p : Addr × Obj), L2H.Hot1 X.A p → ∀ (s : Shared) (H : Hp) (C : Addr) (cl : List (Str × Addr)) (fp : List Addr), PTs (blkP X p s H scope (compEnvC scope cl C X.env) fp) ifs tt)
    (he : ∀ (p : Addr × Obj), L2H.Hot1 X.A p → ∀ (s : Shared) (H : Hp) (C : Addr) (cl : List (Str × Addr)) (fp : List Addr), PE (blkP X p s H scope (compEnvC scope cl C X.env) fp) elt te) (hs : ∀ x, foldedSetIterable iter X.env x = pure x := by intro _; rfl) :
    PS X (.Assign [.Name y py] (.ListComp elt [⟨tg, iter, ifs, 0⟩] scope pos) spos) (tAsg (tLc wi g tt te (own.map (·.2))) (gName i)) := by
  constructor
  intro pins s σ H D I h
  rw [exec_Assign_Name_used _ _ _ _ hsw]; refine wpAny_bind (wpAny_standAt (wpAny_bind ?_))
  show wpAny _ X.A (do let _ ← comprehension (.ListComp elt [⟨tg, iter, ifs, 0⟩] scope pos) scope X.env (firstIterPos [⟨tg, iter, ifs, 0⟩] pos) (newList []) false (eval iter X.env) (some (assign (.Name y py) X.env)); pure ()) _ _ s
  have h2 : tLc wi g tt te (own.map (·.2)) σ H (fun x H1 => gName i x σ H1 D.nx) := h
  refine wpAny_bind (thn (lc_hot (Qf := fun _ t => SP X pins D .next t) bears hN I hi ok hg ht he hs h2 fun L C t m G J q gn ap => ?_) fun _ t hq => wpAny_pure (wpAny_pure hq))
  show wpAny _ _ (assign (.Name y py) X.env (.ref L)) _ _ _
  refine wpAny_assign_Name (store_ok2 (v := V.ref L) J hN hy (.inl hyl) rfl (fun t2 J2 ⟨c, sb, ha⟩ => ?_) (.inr hyl))
  obtain ⟨f0, f1, f2, f3, f4, f5⟩ := ap
  have apart : C ≠ c := by
    rcases ha with z | z
    · rw [z]; exact f1
    · exact fun e => f4 y c z e.symm
  exact ⟨m, gn.sameBut sb apart, fun g3 sb3 => ⟨_, G, J2.turned (t' := t2.toks) (fun b o hb e => (sb3.2 b hb).trans e) f0 f1 f3 f4 f5, q⟩⟩
end
end Lp
namespace Lp
open PySem PySem.Spec PyProof.Rows L2
theorem renorm {C : TS} {D : Ends} {σ σ' : L2.St} {H : Hp} (h : σ = σ') (q : C D σ' H) : C D σ H := h ▸ q
section
variable {K : PySem.W.Frag} {H : Hp} {Q : VK}
theorem dp_opt (o : Option Int) : Dp K H (optV o) (optD o) := by
  cases o with
  | none => exact .non
  | some m => exact .int m
theorem dp_po {q : Addr} {i : Int} {o : Option Int} (h : SqT K H q [.int i, optV o]) : Dp K H (.ref q) (.tuple [.int i, optD o]) := .tup h (.cons (.int i) (.cons (dp_opt o) .nil))
theorem shaped_po (i : Int) (o : Option Int) : SeqAt.shaped (.tuple [.int i, optD o]) = true := shaped_tup (by cases o <;> rfl)
theorem eqv_po (i : Int) (o : Option Int) : PyData.eqv (.tuple [.int i, optD o]) (.tuple [.int i, optD o]) = true := by
  simp only [PyData.eqv, PyData.eqvAll]
  cases o <;> simp [optD, PyData.eqv]
/-- a pair beside itself -/
theorem ne_po {p q : Addr} {i : Int} {o : Option Int} (h1 : SqT K H p [.int i, optV o]) (h2 : SqT K H q [.int i, optV o]) (k : Q (.bl false) H) : rNeD K (.ref p) (.ref q) H Q :=
  ⟨_, _, dp_po h1, dp_po h2, shaped_po i o, shaped_po i o, by rw [eqv_po]; exact k⟩
theorem eq_po {p q : Addr} {i : Int} {o : Option Int} (h1 : SqT K H p [.int i, optV o]) (h2 : SqT K H q [.int i, optV o]) (k : Q (.bl true) H) : rEqD K (.ref p) (.ref q) H Q :=
  ⟨_, _, dp_po h1, dp_po h2, shaped_po i o, shaped_po i o, by rw [eqv_po]; exact k⟩
theorem shaped_int (i : Int) : SeqAt.shaped (.int i) = true := shaped_flat rfl
theorem ne_int {i : Int} (k : Q (.bl false) H) : rNeD K (.int i) (.int i) H Q :=
  ⟨_, _, .int i, .int i, shaped_int i, shaped_int i, by simp only [PyData.eqv]; rw [show (i == i) = true by simp]; exact k⟩
/-- ((c, o),) * 8 laid -/
theorem tab8_at {p p' a : Addr} {c : Int} {o : Option Int} (hp : H p = none) (hp' : (upd H p (.tup [.int c, optV o])) p' = none) (ha : (upd (upd H p (.tup [.int c, optV o])) p' (.tup [.ref p])) a = none) :
    Same H (upd (upd (upd H p (.tup [.int c, optV o])) p' (.tup [.ref p])) a (.tup (List.replicate 8 [V.ref p]).flatten)) ∧ TableAt K (upd (upd (upd H p (.tup [.int c, optV o])) p' (.tup [.ref p])) a (.tup (List.replicate 8 [V.ref p]).flatten)) a (List.replicate 8 (c, o)) := by
  have s1 := same_upd (o := .tup [.int c, optV o]) hp
  have s2 := same_upd (o := .tup [.ref p]) hp'
  have s3 := same_upd (o := .tup (List.replicate 8 [V.ref p]).flatten) ha
  refine ⟨Same.trans (Same.trans s1 s2) s3, .ofRefs (SqT.of upd_same) (by rw [rep_flat]; simp) fun i g hi => ?_⟩
  have il : i < 8 := by
    have := (List.getElem?_eq_some_iff.mp hi).1
    simpa using this
  rw [List.getElem?_replicate, if_pos il] at hi
  cases hi
  exact ⟨p, by rw [rep_flat, List.getElem?_replicate, if_pos il], SqT.of (s3 _ _ (s2 _ _ upd_same))⟩
theorem tab1_at {p a : Addr} {c : Int} {o : Option Int} (hp : H p = none) (ha : (upd H p (.tup [.int c, optV o])) a = none) :
    Same H (upd (upd H p (.tup [.int c, optV o])) a (.tup [.ref p])) ∧ TableAt K (upd (upd H p (.tup [.int c, optV o])) a (.tup [.ref p])) a [(c, o)] := by
  have s1 := same_upd (o := .tup [.int c, optV o]) hp
  have s2 := same_upd (o := .tup [.ref p]) ha
  refine ⟨Same.trans s1 s2, .ofRefs (SqT.of upd_same) rfl fun i g hi => ?_⟩
  cases i with
  | zero =>
    cases hi
    exact ⟨p, rfl, SqT.of (s2 _ _ upd_same)⟩
  | succ i => cases hi
end
end Lp
namespace Lp
open PySem PySem.Spec PyProof.Rows L2 LamX NdefX
def Errs.all (N : Errs) : List Addr := [N.table, N.dish, N.seat, N.shares, N.number, N.pair]
def Errs.named (N : Errs) : List (Addr × Str) := [(N.table, "NoTable"), (N.dish, "NoDish"), (N.seat, "NoSeat"), (N.shares, "NoShares"), (N.number, "NoNumber"), (N.pair, "NoPair")]
/-- what is known of the classes of error -/
structure RefIn (K : PySem.W.Frag) (mg : Str → Option Value) (N : Errs) (DE : Addr) : Prop where
  all : ErrsIn K mg N
  de : mg "DishError" = some (.ref DE)
  ve : mg "ValueError" = none
  exm : ∀ C ∈ N.all, PySem.W.exmOne K (.ref C) (.ref DE) = some true
  exc : ∀ C ∈ N.all, ExcC K C
  kit : ∀ C ∈ N.all, ∀ D ∈ N.all, PySem.W.kitOne K (.ref C) (.ref D) = some (decide (C = D))
  kve : ∀ C ∈ N.all, PySem.W.kitOne K (.ref C) (.type "ValueError") = some true
  nd : N.all.Nodup
/-- what is asked of the called value, and what comes of it: it goes on, or it refuses by a class -/
def RefOk (N : Errs) (sp : Sp) (vs : List V) (H : Hp) (Q : VK) : Prop :=
  (∃ R : Hp → Hp → Prop, (∀ (H0 : Hp) (Qc : VK) (Ec : XK), Same H H0 → (∀ v H', R H0 H' → Qc v H') → sp vs H0 Qc Ec) ∧ ∀ (p : Addr) (H0 H' : Hp), Same H H0 → H0 p = some (.lst []) → R H0 H' → Q (.ref p) H') ∨
  ∃ (C : Addr) (nm : Str), (C, nm) ∈ N.named ∧ (∀ (H0 : Hp) (Qc : VK) (Ec : XK), Same H H0 → (∀ H', Same H0 H' → Ec (.ref C) none H') → sp vs H0 Qc Ec) ∧ ∀ (p : Addr) (H' : Hp), Same H H' → H' p = some (.lst [.str nm, .str "ValueError"]) → Q (.ref p) H'
structure CalRef (P : Program) (w : World) (K : PySem.W.Frag) (mg : Str → Option Value) (base : Heap) (N : Errs) (x : Str) : Prop where
  ex : ∃ g : Addr, mg x = some (.ref g) ∧ PySem.W.keepIn K (.ref g) = true ∧ ∀ (k : Nat) (A : Around) (outer : List Env) (s : Shared) (H : Hp) (us : List Value) (a1 a2 a3 a4 a5 : V) (f : Addr) (kn : Hp → Prop) (cl : List (Str × Addr)) (fr : List Str) (ws : List (Option V)) (sp : List (Option V) → Sp) (Q : VK),
    Room (k + 1) A → Env0 P w K mg base A outer s H → Vals [.ref f, a1, a2, a3, a4, a5] us → VOkX P w K mg base k kn f cl fr sp → (∀ (hp : Heap) (H : Hp), HOk P w H hp → kn H → PySem.W.FnAt f hp) → (∀ H H' : Hp, Same H H' → kn H → kn H') → kn H → CellsAt cl fr ws s.heap H → RefOk N (sp ws) [a1, a2, a3, a4, a5] H Q →
    codeAny (model P w) A (.call (.ref g) ⟨us, []⟩) (CR L2.CX0 outer P w H s Q L2.E0) s
section
variable {P : Program} {w : World} {K : PySem.W.Frag} {mg : Str → Option Value} {base : Heap}
theorem sc_law_refused : FnScope ["call", "one", "two", "three", "four", "last", "kin", "e", "words", "word", "there"] ["call", "one", "two", "three", "four", "last"] (defScope s_law_refused) := ⟨rfl, rfl, rfl, by decide +kernel, rfl, by decide +kernel, by decide +kernel⟩
theorem ref_run {N : Errs} {DE : Addr} {g : Addr} {fd : FuncData} (F : L2.Fun K "_law_refused" "_law_refused" s_law_refused g fd) (hm : mg "_law_refused" = some (.ref g)) (B : Bls mg) (R : RefIn K mg N DE) : CalRef P w K mg base N "_law_refused" := by
  have bd : Binds K fd ["call", "one", "two", "three", "four", "last"] [] := F.binds (fun _ _ _ _ _ _ us hl => match us, hl with | [_, _, _, _, _, _], _ => rfl)
  have kp := F.kp
  obtain ⟨oc, od, kV, doc, pm, an, cdv, ct, osl, rfl, lk, hcd⟩ := F.ex
  refine ⟨g, hm, kp, fun k A outer s H us a1 a2 a3 a4 a5 f kn cl fr ws sp Q hr e0 r vok fa st kH C ok => ?_⟩
  have KX : K.In s.heap := e0.mod.kin.keeps fun b o e => (e0.bs b o e).1
  have hb := bd s us KX (by rw [List.append_nil, ← r.length]; rfl)
  rw [List.append_nil] at hb
  refine run_ofS (ps := ["call", "one", "two", "three", "four", "last"]) (us := us) (vs := [.ref f, a1, a2, a3, a4, a5]) lk hcd sc_law_refused hr e0 hb r rfl fun hr' => ?_
  refine ⟨_, (pss_cons (ps_set (i := 6) sc_law_refused.nd rfl (Or.inl rfl) (pe_lst pa_nil))
      (pss_cons (L2N.ps_try_as (i := 7) (tb := (fun W => tDrop (tCallWX 0 kn f (sp ws) W (tCons (tVar 1) (tCons (tVar 2) (tCons (tVar 3) (tCons (tVar 4) (tCons (tVar 5) tNil)))))))) (ts := (fun a cls d => tSeq (tAsg (tLst (tCons (tTup (tCons (tC (.str "NoTable")) (tCons (tIsE K a cls d 7 (.ref N.table)) tNil))) (tCons (tTup (tCons (tC (.str "NoDish")) (tCons (tIsE K a cls d 7 (.ref N.dish)) tNil))) tNil))) (gName 8)) (tSeq (tAsg (tOp rCat (tVar 8) (tLst (tCons (tTup (tCons (tC (.str "NoSeat")) (tCons (tIsE K a cls d 7 (.ref N.seat)) tNil))) tNil))) (gName 8)) (tSeq (tAsg (tOp rCat (tVar 8) (tLst (tCons (tTup (tCons (tC (.str "NoShares")) (tCons (tIsE K a cls d 7 (.ref N.shares)) tNil))) (tCons (tTup (tCons (tC (.str "NoNumber")) (tCons (tIsE K a cls d 7 (.ref N.number)) tNil))) tNil)))) (gName 8)) (tSeq (tAsg (tOp rCat (tVar 8) (tLst (tCons (tTup (tCons (tC (.str "NoPair")) (tCons (tIsE K a cls d 7 (.ref N.pair)) tNil))) (tCons (tTup (tCons (tC (.str "ValueError")) (tCons (tIsE K a cls d 7 (.type "ValueError")) tNil))) tNil)))) (gName 8)) (tAsg (tLc (iList K (tVar 8)) (gTup K 2 (gCons (gName 9) (gCons (gName 10) gNil))) (tB (tVar 10)) (tVar 9) [9, 10]) (gName 6))))))) (Wout := fun _ _ _ _ => False) rfl rfl sc_law_refused.nd rfl rfl ⟨by rfl, by decide, Or.inl R.de⟩ takesN0
      (fun W pn xe tk _ => by exact (pss_one (ps_expr (pe_callWX (i := 0) vok tk fa C rfl hr' rfl (Or.inl rfl) (pa_cons (pv 1) (pa_cons (pv 2) (pa_cons (pv 3) (pa_cons (pv 4) (pa_cons (pv 5) pa_nil))))) (Nat.le_refl _)))))
      (fun a oe cls d pn hz hf => by exact (pss_cons (ps_set (i := 8) sc_law_refused.nd rfl (Or.inl rfl) (pe_lst (pa_cons (pe_tup (pa_cons pe_str (pa_cons (pe_isE (c := V.ref N.table) (cv := .ref N.table) hz hf B (pv 7) (pe_glob (by rfl) R.all.table.gC rfl) (fun _ r => r)) pa_nil))) (pa_cons (pe_tup (pa_cons pe_str (pa_cons (pe_isE (c := V.ref N.dish) (cv := .ref N.dish) hz hf B (pv 7) (pe_glob (by rfl) R.all.dish.gC rfl) (fun _ r => r)) pa_nil))) pa_nil))))
      (pss_cons (ps_set (i := 8) sc_law_refused.nd rfl (Or.inl rfl) (pe_op op_cat (pv 8) (pe_lst (pa_cons (pe_tup (pa_cons pe_str (pa_cons (pe_isE (c := V.ref N.seat) (cv := .ref N.seat) hz hf B (pv 7) (pe_glob (by rfl) R.all.seat.gC rfl) (fun _ r => r)) pa_nil))) pa_nil))))
      (pss_cons (ps_set (i := 8) sc_law_refused.nd rfl (Or.inl rfl) (pe_op op_cat (pv 8) (pe_lst (pa_cons (pe_tup (pa_cons pe_str (pa_cons (pe_isE (c := V.ref N.shares) (cv := .ref N.shares) hz hf B (pv 7) (pe_glob (by rfl) R.all.shares.gC rfl) (fun _ r => r)) pa_nil))) (pa_cons (pe_tup (pa_cons pe_str (pa_cons (pe_isE (c := V.ref N.number) (cv := .ref N.number) hz hf B (pv 7) (pe_glob (by rfl) R.all.number.gC rfl) (fun _ r => r)) pa_nil))) pa_nil)))))
      (pss_cons (ps_set (i := 8) sc_law_refused.nd rfl (Or.inl rfl) (pe_op op_cat (pv 8) (pe_lst (pa_cons (pe_tup (pa_cons pe_str (pa_cons (pe_isE (c := V.ref N.pair) (cv := .ref N.pair) hz hf B (pv 7) (pe_glob (by rfl) R.all.pair.gC rfl) (fun _ r => r)) pa_nil))) (pa_cons (pe_tup (pa_cons pe_str (pa_cons (pe_isE (c := V.ty "ValueError") (cv := .type "ValueError") hz hf B (pv 7) (pe_bltn (by rfl) R.ve (by decide +kernel) rfl) (fun _ r => r)) pa_nil))) pa_nil)))))
      (pss_one (ps_setLcH (suite_hot hz hf) (i := 6) (own := [("word", 9), ("there", 10)]) (g := (gTup K 2 (gCons (gName 9) (gCons (gName 10) gNil)))) (tt := (tB (tVar 10)))  sc_law_refused.nd rfl rfl (sw_true rfl rfl rfl (by decide +kernel)) (pi_listH (pv 8)) (blkOk_by (own := [("word", 9), ("there", 10)]) (N := ["call", "one", "two", "three", "four", "last", "kin", "e", "words", "word", "there"]) (sc := defScope s_law_refused) (by decide +kernel)) (fun p hot _ _ _ _ _ => by exact (pg_tupH ⟨p, hot, List.mem_singleton.mpr rfl⟩ (pgs_cons (pg_name (i := 9) sc_law_refused.nd rfl (Or.inl rfl)) (pgs_cons (pg_name (i := 10) sc_law_refused.nd rfl (Or.inl rfl)) pgs_nil)))) (fun p hot _ _ _ _ _ => by exact pts_one (pt_val (pv 10))) (fun p hot _ _ _ _ _ => by exact (pv 9))))))))))
      (pss_one (ps_ret (pv 6))))), ?_⟩
  refine ⟨Nat.zero_le _, fun p hp => ?_⟩
  have s1 := same_upd (o := .lst []) hp
  refine nx_mk (renorm (σ' := [some (.ref f), some a1, some a2, some a3, some a4, some a5, some (.ref p), none, none, none, none]) rfl ?_)
  have kn1 := st _ _ s1 kH
  refine ⟨rfl, kn1, _, rfl, _, rfl, _, rfl, _, rfl, _, rfl, kn1, ?_⟩
  rcases ok with ⟨Rl, h1, h2⟩ | ⟨C, nm, mem, h1, h2⟩
  · refine h1 _ _ _ s1 fun v H2 r => ?_
    exact ⟨_, rfl, h2 p _ H2 s1 upd_same r⟩
  refine h1 _ _ _ s1 fun H2 s2 => ?_
  have memA : C ∈ N.all := by
    simp only [Errs.named, List.mem_cons, Prod.mk.injEq, List.not_mem_nil, or_false] at mem
    simp only [Errs.all, List.mem_cons, List.not_mem_nil, or_false]
    rcases mem with h | h | h | h | h | h <;> simp [h.1]
  have exc := R.exc C memA
  refine ⟨true, R.exm C memA, fun _ a ha => ?_, fun z => Bool.noConfusion z⟩
  refine renorm (σ' := [some (.ref f), some a1, some a2, some a3, some a4, some a5, some (.ref p), some (.ref a), none, none, none]) rfl ?_
  refine ⟨C, _, rfl, rfl, exc, R.kit C memA N.table (by simp [Errs.all]), rfl, by show 2 ≤ sizeLine; decide, fun p1 hp1 => ⟨C, _, rfl, rfl, exc, R.kit C memA N.dish (by simp [Errs.all]), rfl, by show 2 ≤ sizeLine; decide, fun p2 hp2 => ⟨by show 2 ≤ sizeLine; decide, fun l1 hl1 => ?_⟩⟩⟩
  have t1 := same_upd (o := .tup [.str "NoTable", .bl (decide (C = N.table))]) hp1
  have t2 := same_upd (o := .tup [.str "NoDish", .bl (decide (C = N.dish))]) hp2
  have t3 := same_upd (o := .lst [.ref p1, .ref p2]) hl1
  refine nx_mk (renorm (σ' := [some (.ref f), some a1, some a2, some a3, some a4, some a5, some (.ref p), some (.ref a), some (.ref l1), none, none]) rfl ?_)
  have hl1' : (upd (upd (upd H2 p1 (.tup [.str "NoTable", .bl (decide (C = N.table))])) p2 (.tup [.str "NoDish", .bl (decide (C = N.dish))])) l1 (.lst [.ref p1, .ref p2])) l1 = some (.lst [.ref p1, .ref p2]) := upd_same
  have g1 := t3 _ _ (t2 _ _ (upd_same (H := H2) (a := p1) (o := .tup [.str "NoTable", .bl (decide (C = N.table))])))
  have g2 := t3 _ _ (upd_same (H := upd H2 p1 (.tup [.str "NoTable", .bl (decide (C = N.table))])) (a := p2) (o := .tup [.str "NoDish", .bl (decide (C = N.dish))]))
  have s3 := Same.trans (Same.trans (Same.trans s2 t1) t2) t3
  generalize upd (upd (upd H2 p1 (.tup [.str "NoTable", .bl (decide (C = N.table))])) p2 (.tup [.str "NoDish", .bl (decide (C = N.dish))])) l1 (.lst [.ref p1, .ref p2]) = H3 at hl1' g1 g2 s3 ⊢
  clear t1 t2 t3
  refine ⟨_, rfl, C, _, rfl, rfl, exc, R.kit C memA N.seat (by simp [Errs.all]), rfl, by show 2 ≤ sizeLine; decide, fun p3 hp3 => ⟨by show 1 ≤ sizeLine; decide, fun m3 hm3 => ?_⟩⟩
  have tp3 := same_upd (o := .tup [.str "NoSeat", .bl (decide (C = N.seat))]) hp3
  have tm := same_upd (o := .lst [.ref p3]) hm3
  have gp3 := (tm _ _ (upd_same (H := H3) (a := p3) (o := .tup [.str "NoSeat", .bl (decide (C = N.seat))])))
  have q3 := (tm _ _ (tp3 _ _ hl1'))
  have g1' := (tm _ _ (tp3 _ _ g1))
  have g2' := (tm _ _ (tp3 _ _ g2))
  have u3 := Same.trans (Same.trans s3 tp3) tm
  refine cat_list q3 upd_same (by show 2 + 1 ≤ 1000; decide) fun r3 H23 v3 e3 => ?_
  have w3 := Same.trans u3 v3
  have g1'' := v3 _ _ g1'
  have g2'' := v3 _ _ g2'
  have gp3z := v3 _ _ gp3
  refine nx_mk (renorm (σ' := [some (.ref f), some a1, some a2, some a3, some a4, some a5, some (.ref p), some (.ref a), some (.ref r3), none, none]) rfl ?_)
  refine ⟨_, rfl, C, _, rfl, rfl, exc, R.kit C memA N.shares (by simp [Errs.all]), rfl, by show 2 ≤ sizeLine; decide, fun p4 hp4 => ⟨C, _, rfl, rfl, exc, R.kit C memA N.number (by simp [Errs.all]), rfl, by show 2 ≤ sizeLine; decide, fun p5 hp5 => ⟨by show 2 ≤ sizeLine; decide, fun m4 hm4 => ?_⟩⟩⟩
  have tp4 := same_upd (o := .tup [.str "NoShares", .bl (decide (C = N.shares))]) hp4
  have tp5 := same_upd (o := .tup [.str "NoNumber", .bl (decide (C = N.number))]) hp5
  have tm := same_upd (o := .lst [.ref p4, .ref p5]) hm4
  have gp4 := (tm _ _ (tp5 _ _ (upd_same (H := H23) (a := p4) (o := .tup [.str "NoShares", .bl (decide (C = N.shares))]))))
  have gp5 := (tm _ _ (upd_same (H := (upd H23 p4 (.tup [.str "NoShares", .bl (decide (C = N.shares))]))) (a := p5) (o := .tup [.str "NoNumber", .bl (decide (C = N.number))])))
  have q4 := (tm _ _ (tp5 _ _ (tp4 _ _ e3)))
  have g1''' := (tm _ _ (tp5 _ _ (tp4 _ _ g1'')))
  have g2''' := (tm _ _ (tp5 _ _ (tp4 _ _ g2'')))
  have gp3z' := (tm _ _ (tp5 _ _ (tp4 _ _ gp3z)))
  have u4 := Same.trans (Same.trans (Same.trans w3 tp4) tp5) tm
  refine cat_list q4 upd_same (by show 3 + 2 ≤ 1000; decide) fun r4 H24 v4 e4 => ?_
  have w4 := Same.trans u4 v4
  have g1'''' := v4 _ _ g1'''
  have g2'''' := v4 _ _ g2'''
  have gp3z'' := v4 _ _ gp3z'
  have gp4z := v4 _ _ gp4
  have gp5z := v4 _ _ gp5
  refine nx_mk (renorm (σ' := [some (.ref f), some a1, some a2, some a3, some a4, some a5, some (.ref p), some (.ref a), some (.ref r4), none, none]) rfl ?_)
  refine ⟨_, rfl, C, _, rfl, rfl, exc, R.kit C memA N.pair (by simp [Errs.all]), rfl, by show 2 ≤ sizeLine; decide, fun p6 hp6 => ⟨C, _, rfl, rfl, exc, R.kve C memA, rfl, by show 2 ≤ sizeLine; decide, fun p7 hp7 => ⟨by show 2 ≤ sizeLine; decide, fun m6 hm6 => ?_⟩⟩⟩
  have tp6 := same_upd (o := .tup [.str "NoPair", .bl (decide (C = N.pair))]) hp6
  have tp7 := same_upd (o := .tup [.str "ValueError", .bl true]) hp7
  have tm := same_upd (o := .lst [.ref p6, .ref p7]) hm6
  have gp6 := (tm _ _ (tp7 _ _ (upd_same (H := H24) (a := p6) (o := .tup [.str "NoPair", .bl (decide (C = N.pair))]))))
  have gp7 := (tm _ _ (upd_same (H := (upd H24 p6 (.tup [.str "NoPair", .bl (decide (C = N.pair))]))) (a := p7) (o := .tup [.str "ValueError", .bl true])))
  have q6 := (tm _ _ (tp7 _ _ (tp6 _ _ e4)))
  have g1''''' := (tm _ _ (tp7 _ _ (tp6 _ _ g1'''')))
  have g2''''' := (tm _ _ (tp7 _ _ (tp6 _ _ g2'''')))
  have gp3z''' := (tm _ _ (tp7 _ _ (tp6 _ _ gp3z'')))
  have gp4z' := (tm _ _ (tp7 _ _ (tp6 _ _ gp4z)))
  have gp5z' := (tm _ _ (tp7 _ _ (tp6 _ _ gp5z)))
  have u6 := Same.trans (Same.trans (Same.trans w4 tp6) tp7) tm
  refine cat_list q6 upd_same (by show 5 + 2 ≤ 1000; decide) fun r6 H26 v6 e6 => ?_
  have w6 := Same.trans u6 v6
  have g1'''''' := v6 _ _ g1'''''
  have g2'''''' := v6 _ _ g2'''''
  have gp3z'''' := v6 _ _ gp3z'''
  have gp4z'' := v6 _ _ gp4z'
  have gp5z'' := v6 _ _ gp5z'
  have gp6z := v6 _ _ gp6
  have gp7z := v6 _ _ gp7
  refine nx_mk (renorm (σ' := [some (.ref f), some a1, some a2, some a3, some a4, some a5, some (.ref p), some (.ref a), some (.ref r6), none, none]) rfl ?_)
  have e6' : H26 r6 = some (.lst (([p1, p2, p3, p4, p5, p6, p7] : List Addr).map V.ref)) := e6
  obtain ⟨prs, eprs⟩ : ∃ prs : List (Str × Bool), prs = ([("NoTable", decide (C = N.table)), ("NoDish", decide (C = N.dish)), ("NoSeat", decide (C = N.seat)), ("NoShares", decide (C = N.shares)), ("NoNumber", decide (C = N.number)), ("NoPair", decide (C = N.pair)), ("ValueError", true)] : List (Str × Bool)) := ⟨_, rfl⟩
  have tups : ∀ (i : Nat) (y : Str × Bool) (c : Addr), prs[i]? = some y → ([p1, p2, p3, p4, p5, p6, p7] : List Addr)[i]? = some c → H26 c = some (.tup [.str y.1, .bl y.2]) := fun i y c h1 h2 => by
    subst eprs
    match i, h1, h2 with
    | 0, h1, h2 => cases h1; cases h2; exact g1''''''
    | 1, h1, h2 => cases h1; cases h2; exact g2''''''
    | 2, h1, h2 => cases h1; cases h2; exact gp3z''''
    | 3, h1, h2 => cases h1; cases h2; exact gp4z''
    | 4, h1, h2 => cases h1; cases h2; exact gp5z''
    | 5, h1, h2 => cases h1; cases h2; exact gp6z
    | 6, h1, h2 => cases h1; cases h2; exact gp7z
    | i + 7, h1, h2 => cases h2
  refine ⟨_, rfl, r6, rfl, ⟨_, SqL.of e6'⟩, fun Dl hD => ?_⟩
  refine lc_list (K := K) (a := r6) (xs := ([p1, p2, p3, p4, p5, p6, p7] : List Addr).map V.ref) (fun i H' => Same H26 H' ∧ H' Dl = some (.lst (((prs.take i).filter (·.2)).map fun y => V.str y.1))) ⟨same_upd hD, upd_same⟩ (fun i H' _ h => SqL.of (h.1 _ _ e6')) ?_ ?_
  · rintro i x H' hi ⟨sm, hq⟩
    have il : i < 7 := (List.getElem?_eq_some_iff.mp hi).1
    have ip : i < prs.length := by rw [eprs]; exact il
    rw [List.getElem?_map] at hi
    obtain ⟨c, hc, rfl⟩ : ∃ c, ([p1, p2, p3, p4, p5, p6, p7] : List Addr)[i]? = some c ∧ x = .ref c := by
      cases e : ([p1, p2, p3, p4, p5, p6, p7] : List Addr)[i]? with
      | none => rw [e] at hi; cases hi
      | some c => rw [e] at hi; exact ⟨c, rfl, (Option.some.inj hi).symm⟩
    have hy := List.getElem?_eq_getElem ip
    have tc := sm _ _ (tups i _ c hy hc)
    have more : prs.take (i + 1) = prs.take i ++ [prs[i]] := by rw [List.take_add_one, hy]; rfl
    generalize prs[i] = y at tc more
    obtain ⟨y1, y2⟩ := y
    refine ⟨c, _, rfl, SqT.of tc, rfl, _, _, rfl, _, _, rfl, rfl, ?_⟩
    refine ⟨rfl, ?_⟩
    refine ⟨_, rfl, _, rfl, ?_⟩
    rw [more, List.filter_append, List.map_append]
    cases y2 with
    | false => exact iteF ⟨sm, by rw [hq]; simp⟩
    | true => exact iteT ⟨_, rfl, _, hq, by rw [List.length_map]; exact small1000 (Nat.le_trans (List.length_filter_le _ _) (by rw [List.length_take]; omega)), upd_kept sm hD, by rw [upd_same]; rfl⟩
  rintro H9 ⟨s9, hq9⟩
  have fin : ((prs.take 7).filter (·.2)).map (fun y => V.str y.1) = [.str nm, .str "ValueError"] := by
    have nd := R.nd
    simp only [Errs.all, List.nodup_cons, List.mem_cons, List.not_mem_nil, or_false, not_or, List.nodup_nil, and_true, not_false_eq_true] at nd
    obtain ⟨⟨n1, n2, n3, n4, n5⟩, ⟨n6, n7, n8, n9⟩, ⟨n10, n11, n12⟩, ⟨n13, n14⟩, n15⟩ := nd
    simp only [Errs.named, List.mem_cons, Prod.mk.injEq, List.not_mem_nil, or_false] at mem
    subst eprs
    rcases mem with ⟨rfl, rfl⟩ | ⟨rfl, rfl⟩ | ⟨rfl, rfl⟩ | ⟨rfl, rfl⟩ | ⟨rfl, rfl⟩ | ⟨rfl, rfl⟩ <;> simp [*, Ne.symm, eq_comm]
  rw [show (([p1, p2, p3, p4, p5, p6, p7] : List Addr).map V.ref).length = 7 from rfl, fin] at hq9
  refine ⟨_, rfl, h2 Dl H9 (Same.trans (Same.trans s1 ?_) s9) hq9⟩
  exact w6
end
end Lp
namespace Lp
open PySem PySem.Spec PyProof.Rows L2 LamX NdefX
/-- what holds of data goes on where tables of code objects grow -/
theorem dp_evn {K : PySem.W.Frag} {H H' : Hp} (ev : EvN H H') {v : V} {d : PyData} (h : Dp K H v d) : Dp K H' v d := by
  have key : ∀ (n : Nat), (∀ (d : PyData) (v : V), sizeOf d < n → Dp K H v d → Dp K H' v d) ∧ ∀ (ds : List PyData) (vs : List V), sizeOf ds < n → DpAll K H vs ds → DpAll K H' vs ds := by
    intro n
    induction n with
    | zero => exact ⟨fun _ _ h => absurd h (Nat.not_lt_zero _), fun _ _ h => absurd h (Nat.not_lt_zero _)⟩
    | succ n ih =>
      refine ⟨fun d v hn h => ?_, fun ds vs hn h => ?_⟩
      · cases h with
        | non => exact .non
        | bl b => exact .bl b
        | int i => exact .int i
        | str x => exact .str x
        | lst hs ha => exact .lst (ev.sql hs) (ih.2 _ _ (by simp only [PyData.list.sizeOf_spec] at hn; omega) ha)
        | tup hs ha => exact .tup (ev.sqt hs) (ih.2 _ _ (by simp only [PyData.tuple.sizeOf_spec] at hn; omega) ha)
      · cases h with
        | nil => exact .nil
        | cons h1 h2 =>
          simp only [List.cons.sizeOf_spec] at hn
          exact .cons (ih.1 _ _ (by omega) h1) (ih.2 _ _ (by omega) h2)
  exact (key (sizeOf d + 1)).1 d v (Nat.lt_succ_self _) h
theorem Chk.Is.evn {K : PySem.W.Frag} {H H' : Hp} {b : Bool} {c : Chk} (h : c.Is K H b) (s : EvN H H') : c.Is K H' b := by
  cases c with
  | table v => exact h.imp fun d h => ⟨dp_evn s h.1, h.2⟩
  | dish v => exact h.imp fun d h => ⟨dp_evn s h.1, h.2⟩
  | number v => exact h.imp fun d h => ⟨dp_evn s h.1, h.2⟩
  | shares t v =>
    obtain ⟨a, xs, d, h1, h2, h3, h4, h5⟩ := h
    exact ⟨a, xs, d, h1, s.sqt h2, h3, dp_evn s h4, h5⟩
  | seat t v =>
    obtain ⟨a, xs, d, h1, h2, h3, h4⟩ := h
    exact ⟨a, xs, d, h1, s.sqt h2, dp_evn s h3, h4⟩
/-- the first look that fails is one that lets C out -/
inductive Refuses (K : PySem.W.Frag) (N : Errs) (H : Hp) : List Chk → Addr → Prop
  | here {c : Chk} {cs : List Chk} (h : c.Is K H false) : Refuses K N H (c :: cs) (c.cls N)
  | later {c : Chk} {cs : List Chk} {C : Addr} (h : c.Is K H true) (k : Refuses K N H cs C) : Refuses K N H (c :: cs) C
theorem Refuses.evn {K : PySem.W.Frag} {N : Errs} {H H' : Hp} {cs : List Chk} {C : Addr} (h : Refuses K N H cs C) (s : EvN H H') : Refuses K N H' cs C := by
  induction h with
  | here h => exact .here (h.evn s)
  | later h _ ih => exact .later (h.evn s) ih
theorem Refuses.looks {K : PySem.W.Frag} {N : Errs} {H : Hp} {cs : List Chk} {C : Addr} {Q : VK} {E : XK} (h : Refuses K N H cs C) (k : ∀ H', Same H H' → E (.ref C) none H') : Looks K N H Q E cs := by
  induction h with
  | here h => exact .inl ⟨h, k⟩
  | later h _ ih => exact .inr ⟨h, ih k⟩
theorem Third.evn {K : PySem.W.Frag} {H H' : Hp} {n : Nat} {x : Str} {v : V} (h : Third K H n x v) (s : EvN H H') : Third K H' n x v := by
  cases h with
  | shares => exact .shares _
  | left => exact .left _
  | gains => exact .gains _
  | taker b h1 h2 => exact .taker b h1 h2
  | dishes a ns h1 h2 h3 => exact .dishes a ns (s.sql h1) h2 h3
  | least a ns h1 h2 h3 => exact .least a ns (s.sql h1) h2 h3
  | courtesies a ns h1 h2 h3 => exact .courtesies a ns (s.sql h1) h2 h3
  | enoughs a ns h1 h2 h3 => exact .enoughs a ns (s.sql h1) h2 h3
/-! ### _law_refused, asked with a lambda -/
def firstArg : Expr → Expr
  | .Call _ es _ _ => es.headD (.Constant .none 0 ⟨0, 0, 0, 0⟩)
  | e => e
def tRef (mk : Addr → NF) (b : Expr) (js : List Nat) (N : Errs) (sp : List (Option V) → Sp) (t : TA) : TE := fun σ H Q => t σ H fun vs H1 => ∃ (f c' : Addr) (a1 a2 a3 a4 a5 : V), vs = [.ref f, a1, a2, a3, a4, a5] ∧ KnL f (mk c') b H1 ∧ RefOk N (sp (js.map (slotAt σ))) [a1, a2, a3, a4, a5] H1 Q
theorem pe_ref {X : Cx} {k j : Nat} {x : Str} {mk : Addr → NF} {b : Expr} {js : List Nat} {fr : List Str} {N : Errs} {sp : List (Option V) → Sp} {t : TA} {p pos : Pos} {e : Expr} {es : List Expr} (c : CalRef X.prog X.w X.K X.mg X.base N x) (V : ∀ f c', VOkX X.prog X.w X.K X.mg X.base k (KnL f (mk c') b) f X.env.cells fr sp) (cp : X.Ok → Caps X X.env.cells fr js)
    (hr : Room j X.A) (hk : k + 1 ≤ j) (ha : PA X (e :: es) t) (hg : Gl X x := by rfl) (hdb : (x == ("__debug__" : Str)) = false := by decide) (he : starEach (e :: es) X.env = (false, eval e X.env) :: starEach es X.env := by rfl) (hpl : (backTo pos (starEach es X.env)).any (·.1) = false := by rfl) :
    PE X (.Call (.Name x p) (e :: es) [] pos) (tRef mk b js N sp t) := by
  obtain ⟨g, hm, kp, run⟩ := c.ex
  refine ⟨fun pins s σ H Q I h => wpAny_Call_Name_kw (ld_glob I hg hm ?_ hdb)⟩
  refine PySem.W.callWith_K (h₀ := X.base) I.ok.mod.kin kp (thn (ha.run pos pins s σ H _ I h) fun us s1 ⟨vs, H1, I1, r, f, c', a1, a2, a3, a4, a5, ev, kn, ok⟩ => ⟨I1.kIn, ?_⟩) he hpl
  subst ev
  refine wpAny_call (codeAny_mono (run k X.A X.stack s1 H1 us a1 a2 a3 a4 a5 f _ _ fr _ sp Q (hr.mono hk) I1.env0 r (V f c') (fun hp H ok q => fnAtL ok q) (fun H H' st q => ⟨st _ _ q.1, st _ _ q.2⟩) kn (cells_of I1 (cp I1.ok)) ok) fun r s' hq => ?_)
  cases r with
  | error e => exact (show False from hq).elim
  | ok fl =>
    cases fl with
    | ret u => exact I1.after hq
    | next => exact False.elim hq
    | brk => exact False.elim hq
    | cont => exact False.elim hq
/-! ### _law_kin_of -/
abbrev kin_lam : Expr := firstArg (retOf ((defBody s_law_kin_of).getLastD (.Pass ⟨0, 0, 0, 0⟩)))
def kinName : Nat → Nat → Str := fun _ _ => "_law_kin_of.<locals>.<lambda>"
theorem kin_scope : NScope ["a", "b", "c", "d", "e", "word"] ["a", "b", "c", "d", "e"] ["word"] (lamS kin_lam) := nscope_by (by decide +kernel)
theorem kin_cap : capB (defScope s_law_kin_of) (lamS kin_lam) ["word"] = true := by decide +kernel
def spAskAny (K : PySem.W.Frag) (T : List NTab) (N : Errs) : Sp := fun vs H Q E => spAsked K T vs H Q E ∨ xpAskedL K N vs H Q E
def spLamKin (K : PySem.W.Frag) (T : List NTab) (N : Errs) (ws : List (Option V)) : Sp := fun vs H Q E => vs.length = 5 ∧ ∃ wd : V, ws = [some wd] ∧ spAskAny K T N (wd :: vs) H Q E
section
variable {P : Program} {w : World} {K : PySem.W.Frag} {mg : Str → Option Value} {base : Heap} {T : List NTab} {N : Errs}
theorem kin_vok {n : Nat} (x_law_asked : CalX P w K mg base 10 "_law_asked" (spAskAny K T N)) (f c : Addr) :
    VOkX P w K mg base 11 (KnL f (lamF kin_lam "_law_kin_of.<locals>.<lambda>" (cellsFrom n (defScope s_law_kin_of).names []) c) (lamB kin_lam)) f (cellsFrom n (defScope s_law_kin_of).names []) ["word"] (spLamKin K T N) := by
  refine vokX_lam (N := ["a", "b", "c", "d", "e", "word"]) (ps := ["a", "b", "c", "d", "e"]) (frL := ["word"]) (js := [0]) kin_scope (fun pm tup us hl => match us, hl with | [_, _, _, _, _], _ => rfl) (fun ws vs H Q E h => h.1) (cap_sub kin_cap) (cap_sup kin_cap) rfl fun A outer s H vs ws Q E hr kn C h => ?_
  obtain ⟨len, wd, rfl, h⟩ := h
  match vs, len with
  | [a1, a2, a3, a4, a5], _ =>
    refine ⟨_, (pe_gX x_law_asked hr (L2N.takes_of rfl rfl rfl rfl) (pa_cons (pe_var (i := 5) rfl (by right; right; rfl)) (pa_cons (pe_var (i := 0) rfl (by left; rfl)) (pa_cons (pe_var (i := 1) rfl (by left; rfl)) (pa_cons (pe_var (i := 2) rfl (by left; rfl)) (pa_cons (pe_var (i := 3) rfl (by left; rfl)) (pa_cons (pe_var (i := 4) rfl (by left; rfl)) pa_nil))))))), ?_⟩
    exact ⟨_, rfl, _, rfl, _, rfl, _, rfl, _, rfl, _, rfl, h⟩
/-- the classes of a refusal by a word, [] where there is none -/
def spKin (K : PySem.W.Frag) (T : List NTab) (N : Errs) : Sp := fun vs H Q _ => ∃ (word : Str) (tv dv h sv bv : V), vs = [.str word, tv, dv, h, sv, bv] ∧ TabsN T H ∧
  ((∃ (ta : Addr) (t : List Guest) (d : Int) (p f : Nat), tv = .ref ta ∧ dv = .int d ∧ sv = .int (p : Int) ∧ bv = .int (f : Int) ∧ TableAt K H ta t ∧ TabOk t ∧ 0 ≤ d ∧ d ≤ 1000000000000000000 ∧ p < t.length ∧ f < t.length ∧ Third K H t.length word h ∧
    ∀ (r : Addr) (H' : Hp), EvN H H' → TabsN T H' → H' r = some (.lst []) → Q (.ref r) H') ∨
  ∃ (cs : List Chk) (C : Addr) (nm : Str), Asks word tv dv h sv bv cs ∧ Refuses K N H cs C ∧ (C, nm) ∈ N.named ∧
    ∀ (r : Addr) (H' : Hp), EvN H H' → TabsN T H' → H' r = some (.lst [.str nm, .str "ValueError"]) → Q (.ref r) H')
theorem sc_law_kin_of : FnScope ["word", "table", "dish", "third", "seat", "begin"] ["word", "table", "dish", "third", "seat", "begin"] (defScope s_law_kin_of) := ⟨rfl, rfl, rfl, by decide +kernel, rfl, by decide +kernel, by decide +kernel⟩
theorem ok_kin {f c P' : Addr} {fd : FuncData} (F : FunC K "_law_kin_of" "_law_kin_of" s_law_kin_of f c fd) (TB : TabB base mg c P') (TI : TabIn T P' kinName) (x_law_asked : CalX P w K mg base 10 "_law_asked" (spAskAny K T N)) (c_ref : CalRef P w K mg base N "_law_refused") :
    FnOk P w K mg base L2.CX0 13 f fd ["word", "table", "dish", "third", "seat", "begin"] (spKin K T N) := by
  refine F.ok sc_law_kin_of (fun vs H Q E h => ?_) (fun A outer s H vs Q E hr h => ?_)
  · obtain ⟨_, _, _, _, _, _, rfl, _⟩ := h
    rfl
  · obtain ⟨word, tv, dv, h3, sv, bv, rfl, hT, h⟩ := h
    refine ⟨_, (pss_one (ps_ret (pe_ref (mk := fun c => lamF kin_lam "_law_kin_of.<locals>.<lambda>" (cellsFrom (s.heap.objs.size + 1) (defScope s_law_kin_of).names []) c) (b := lamB kin_lam) (js := [0]) c_ref (kin_vok x_law_asked) (fun _ => ⟨fun _ _ e => e, fun y hy => .inl ((by decide +kernel : ∀ y ∈ (["word"] : List Str), (defScope s_law_kin_of).names.lookup y = some .cell) y hy), fun _ _ _ e => e, rfl⟩) hr (by decide) (pa_cons (pe_lam TB rfl TI.mem rfl TI.uniq (fun y hy e => .inl (cap_cell kin_cap y hy e)) rfl) (pa_cons (pv 1) (pa_cons (pv 2) (pa_cons (pv 3) (pa_cons (pv 4) (pa_cons (pv 5) pa_nil))))))))), ?_⟩
    refine ⟨hT, fun fl cl H1 x1 x2 hT1 kf kc => ?_⟩
    have e1 : EvN H H1 := ⟨x1, x2⟩
    refine ⟨_, rfl, _, rfl, _, rfl, _, rfl, _, rfl, fl, cl, _, _, _, _, _, rfl, ⟨kf, kc⟩, ?_⟩
    rcases h with ⟨ta, t, d, p, fs, rfl, rfl, rfl, rfl, tb, ok, d0, d1, hp, hf, th, q⟩ | ⟨cs, C, nm, ak, ref, mem, q⟩
    · refine .inl ⟨fun H0 H' => EvN H0 H' ∧ TabsN T H', fun H0 Qc Ec s0 k => ⟨rfl, _, rfl, .inl ⟨word, ta, t, d, h3, p, fs, rfl, tb.evn (e1.trans (Same.evn s0)), ok, d0, d1, hp, hf, Same.tabs s0 hT1, th.evn (e1.trans (Same.evn s0)), fun v H' ev hT' => k v H' ⟨ev, hT'⟩⟩⟩, fun r H0 H' s0 hr0 ⟨ev, hT'⟩ => ?_⟩
      exact q r H' ((e1.trans (Same.evn s0)).trans ev) hT' (ev.lst hr0)
    · refine .inr ⟨C, nm, mem, fun H0 Qc Ec s0 k => ⟨rfl, _, rfl, .inr ⟨word, tv, dv, h3, sv, bv, cs, rfl, ak, (ref.evn (e1.trans (Same.evn s0))).looks k⟩⟩, fun r H' s0 hr0 => ?_⟩
      exact q r H' (e1.trans (Same.evn s0)) (Same.tabs s0 hT1) hr0
end
end Lp
namespace Lp
open PySem PySem.Spec PyProof.Rows L2 LamX NdefX
theorem renormG {C : TS} {D : Ends} {σ σ' : L2.St} {H : Hp} (h : σ = σ') (q : ∀ H', H' = H → C D σ' H') : C D σ H := h ▸ q H rfl
/-! ### pairs of tables that can't be compared -/
def PairNo (K : PySem.W.Frag) (N : Errs) (H : Hp) (x y : V) (C : Addr) : Prop := Refuses K N H [.table x, .table y] C ∨ (C = N.pair ∧ ∃ (a b : Addr) (t u : List Guest), x = .ref a ∧ y = .ref b ∧ TableAt K H a t ∧ TableAt K H b u ∧ TabOk t ∧ TabOk u ∧ (t.length ≠ u.length ∨ t.all smallB = false ∨ u.all smallB = false))
theorem PairNo.evn {K : PySem.W.Frag} {N : Errs} {H H' : Hp} {x y : V} {C : Addr} (h : PairNo K N H x y C) (s : EvN H H') : PairNo K N H' x y C := by
  rcases h with h | ⟨e, a, b, t, u, h1, h2, h3, h4, h5⟩
  · exact .inl (h.evn s)
  · exact .inr ⟨e, a, b, t, u, h1, h2, h3.evn s, h4.evn s, h5⟩
theorem PairNo.xp {K : PySem.W.Frag} {N : Errs} {H : Hp} {x y : V} {C : Addr} {Q : VK} {E : XK} (h : PairNo K N H x y C) (k : ∀ H', Same H H' → E (.ref C) none H') : xpParted K N [x, y] H Q E := by
  rcases h with h | ⟨e, a, b, t, u, h1, h2, h3, h4, h5, h6, h7⟩
  · exact ⟨x, y, rfl, .inl (h.looks k)⟩
  · subst e
    exact ⟨x, y, rfl, .inr ⟨a, b, t, u, h1, h2, h3, h4, h5, h6, h7, k⟩⟩
def forB : Stmt → List Stmt
  | .For _ _ b _ _ => b
  | _ => []
def ifT : Stmt → Expr
  | .If t _ _ _ => t
  | _ => .Constant .none 0 ⟨0, 0, 0, 0⟩
def cmpL : Expr → Expr
  | .Compare e _ _ _ => e
  | e => e
abbrev pair_lam1 : Expr := firstArg (cmpL (ifT ((forB (nthS s_law_pairs_refused 4)).headD (.Pass ⟨0, 0, 0, 0⟩))))
abbrev pair_lam2 : Expr := firstArg (cmpL (retOf (nthS s_law_pairs_refused 5)))
def pairName : Nat → Nat → Str := fun _ _ => "_law_pairs_refused.<locals>.<lambda>"
theorem pair_scope1 : NScope ["a", "b", "c", "d", "e"] ["a", "b", "c", "d", "e"] [] (lamS pair_lam1) := nscope_by (by decide +kernel)
theorem pair_scope2 : NScope ["a", "b", "c", "d", "e"] ["a", "b", "c", "d", "e"] [] (lamS pair_lam2) := nscope_by (by decide +kernel)
theorem pair_cap1 : capB (defScope s_law_pairs_refused) (lamS pair_lam1) [] = true := by decide +kernel
theorem pair_cap2 : capB (defScope s_law_pairs_refused) (lamS pair_lam2) [] = true := by decide +kernel
def spPartAny (K : PySem.W.Frag) (N : Errs) : Sp := fun vs H Q E => spParted K vs H Q E ∨ xpParted K N vs H Q E
def spLamPair (K : PySem.W.Frag) (N : Errs) (_ : List (Option V)) : Sp := fun vs H Q E => ∃ a b c d e : V, vs = [a, b, c, d, e] ∧ spPartAny K N [a, b] H Q E
theorem dp_strs {K : PySem.W.Frag} {H : Hp} {a : Addr} {x y : Str} (h : H a = some (.lst [.str x, .str y])) : Dp K H (.ref a) (.list [.str x, .str y]) := .lst (SqL.of h) (.cons (.str x) (.cons (.str y) .nil))
theorem shaped_strs {x y : Str} (h1 : PyData.strOk x = true) (h2 : PyData.strOk y = true) : SeqAt.shaped (.list [.str x, .str y]) = true := by
  simp [SeqAt.shaped, PyData.canLay0, PyData.canLayAll0, PyData.depth, PyData.depthAll, h1, h2]
theorem eqv_strs (x y : Str) : PyData.eqv (.list [.str x, .str y]) (.list [.str x, .str y]) = true := by simp [PyData.eqv, PyData.eqvAll]
theorem ne_strs {K : PySem.W.Frag} {H : Hp} {Q : VK} {a b : Addr} {x y : Str} (h1 : PyData.strOk x = true) (h2 : PyData.strOk y = true) (ha : H a = some (.lst [.str x, .str y])) (hb : H b = some (.lst [.str x, .str y])) (k : Q (.bl false) H) : rNeD K (.ref a) (.ref b) H Q :=
  ⟨_, _, dp_strs ha, dp_strs hb, shaped_strs h1 h2, shaped_strs h1 h2, by rw [eqv_strs]; exact k⟩
theorem named_ok {N : Errs} {C : Addr} {nm : Str} (h : (C, nm) ∈ N.named) : PyData.strOk nm = true := by
  simp only [Errs.named, List.mem_cons, Prod.mk.injEq, List.not_mem_nil, or_false] at h
  rcases h with ⟨_, e⟩ | ⟨_, e⟩ | ⟨_, e⟩ | ⟨_, e⟩ | ⟨_, e⟩ | ⟨_, e⟩ <;> subst e <;> decide +kernel
section
variable {K : PySem.W.Frag} {H : Hp} {Q : VK}
theorem cut_to1 {a : Addr} {xs : List V} (h : SqT K H a xs) (q : ∀ (r : Addr) (H' : Hp), Same H H' → SqT K H' r (xs.take 1) → Q (.ref r) H') : rSlA K (.ref a) none (some 1) H Q := cut_to (p := 1) h q
theorem tab2_at {p p' a : Addr} {g g' : Guest} (hp : H p = none) (hp' : (upd H p (.tup [.int g.1, optV g.2])) p' = none) (ha : (upd (upd H p (.tup [.int g.1, optV g.2])) p' (.tup [.int g'.1, optV g'.2])) a = none) :
    Same H (upd (upd (upd H p (.tup [.int g.1, optV g.2])) p' (.tup [.int g'.1, optV g'.2])) a (.tup [.ref p, .ref p'])) ∧ TableAt K (upd (upd (upd H p (.tup [.int g.1, optV g.2])) p' (.tup [.int g'.1, optV g'.2])) a (.tup [.ref p, .ref p'])) a [g, g'] := by
  have s1 := same_upd (o := .tup [.int g.1, optV g.2]) hp
  have s2 := same_upd (o := .tup [.int g'.1, optV g'.2]) hp'
  have s3 := same_upd (o := .tup [.ref p, .ref p']) ha
  refine ⟨Same.trans (Same.trans s1 s2) s3, .ofRefs (SqT.of upd_same) rfl fun i g hi => ?_⟩
  match i, hi with
  | 0, hi => cases hi; exact ⟨p, rfl, SqT.of (s3 _ _ (s2 _ _ upd_same))⟩
  | 1, hi => cases hi; exact ⟨p', rfl, SqT.of (s3 _ _ upd_same)⟩
  | i + 2, hi => cases hi
theorem tabR_at {p p' a : Addr} {c : Int} {o : Option Int} (hp : H p = none) (hp' : (upd H p (.tup [.int c, optV o])) p' = none) (ha : (upd (upd H p (.tup [.int c, optV o])) p' (.tup [.ref p])) a = none) :
    Same H (upd (upd (upd H p (.tup [.int c, optV o])) p' (.tup [.ref p])) a (.tup (List.replicate 2 [V.ref p]).flatten)) ∧ TableAt K (upd (upd (upd H p (.tup [.int c, optV o])) p' (.tup [.ref p])) a (.tup (List.replicate 2 [V.ref p]).flatten)) a [(c, o), (c, o)] := by
  have s1 := same_upd (o := .tup [.int c, optV o]) hp
  have s2 := same_upd (o := .tup [.ref p]) hp'
  have s3 := same_upd (o := .tup (List.replicate 2 [V.ref p]).flatten) ha
  refine ⟨Same.trans (Same.trans s1 s2) s3, .ofRefs (SqT.of upd_same) rfl fun i g hi => ?_⟩
  match i, hi with
  | 0, hi => cases hi; exact ⟨p, rfl, SqT.of (s3 _ _ (s2 _ _ upd_same))⟩
  | 1, hi => cases hi; exact ⟨p, rfl, SqT.of (s3 _ _ (s2 _ _ upd_same))⟩
  | i + 2, hi => cases hi
end
section
variable {P : Program} {w : World} {K : PySem.W.Frag} {mg : Str → Option Value} {base : Heap} {T : List NTab} {N : Errs}
theorem pair_vok1 {n : Nat} (x_parted : CalX P w K mg base 5 "parted" (spPartAny K N)) (f c : Addr) :
    VOkX P w K mg base 6 (KnL f (lamF pair_lam1 "_law_pairs_refused.<locals>.<lambda>" (cellsFrom n (defScope s_law_pairs_refused).names []) c) (lamB pair_lam1)) f (cellsFrom n (defScope s_law_pairs_refused).names []) [] (spLamPair K N) := by
  refine vokX_lam (N := ["a", "b", "c", "d", "e"]) (ps := ["a", "b", "c", "d", "e"]) (frL := []) (js := []) pair_scope1 (fun pm tup us hl => match us, hl with | [_, _, _, _, _], _ => rfl) (fun ws vs H Q E h => ?_) (cap_sub pair_cap1) (cap_sup pair_cap1) rfl fun A outer s H vs ws Q E hr kn C h => ?_
  · obtain ⟨_, _, _, _, _, rfl, _⟩ := h
    rfl
  · obtain ⟨a, b, c, d, e, rfl, h⟩ := h
    exact ⟨_, (pe_gX x_parted hr (L2N.takes_of rfl rfl rfl rfl) (pa_cons (pe_var (i := 0) rfl (by left; rfl)) (pa_cons (pe_var (i := 1) rfl (by left; rfl)) pa_nil))), ⟨_, rfl, _, rfl, h⟩⟩
theorem pair_vok2 {n : Nat} (x_parted : CalX P w K mg base 5 "parted" (spPartAny K N)) (f c : Addr) :
    VOkX P w K mg base 6 (KnL f (lamF pair_lam2 "_law_pairs_refused.<locals>.<lambda>" (cellsFrom n (defScope s_law_pairs_refused).names []) c) (lamB pair_lam2)) f (cellsFrom n (defScope s_law_pairs_refused).names []) [] (spLamPair K N) := by
  refine vokX_lam (N := ["a", "b", "c", "d", "e"]) (ps := ["a", "b", "c", "d", "e"]) (frL := []) (js := []) pair_scope2 (fun pm tup us hl => match us, hl with | [_, _, _, _, _], _ => rfl) (fun ws vs H Q E h => ?_) (cap_sub pair_cap2) (cap_sup pair_cap2) rfl fun A outer s H vs ws Q E hr kn C h => ?_
  · obtain ⟨_, _, _, _, _, rfl, _⟩ := h
    rfl
  · obtain ⟨a, b, c, d, e, rfl, h⟩ := h
    exact ⟨_, (pe_gX x_parted hr (L2N.takes_of rfl rfl rfl rfl) (pa_cons (pe_var (i := 0) rfl (by left; rfl)) (pa_cons (pe_var (i := 1) rfl (by left; rfl)) pa_nil))), ⟨_, rfl, _, rfl, h⟩⟩
def spPairs (K : PySem.W.Frag) (T : List NTab) : Sp := fun vs H Q _ => ∃ b : Addr, vs = [.ref b] ∧ BagAt K H b ∧ TabsN T H ∧ ∀ H', Evw H H' → TabsN T H' → Q (.bl true) H'
theorem sc_law_pairs_refused : FnScope ["bag", "one", "bad", "dues", "begin", "second", "due"] ["bag"] (defScope s_law_pairs_refused) := ⟨rfl, rfl, rfl, by decide +kernel, rfl, by decide +kernel, by decide +kernel⟩
theorem ok_pairs {f c P' : Addr} {fd : FuncData} (F : FunC K "_law_pairs_refused" "_law_pairs_refused" s_law_pairs_refused f c fd) (B : Bls mg) (TB : TabB base mg c P') (TI : TabIn T P' pairName) (c_law_take : Cal P w K mg base 1 "_law_take" (spTake K)) (c_law_table : Cal P w K mg base 3 "_law_table" (spLawTable K)) (x_parted : CalX P w K mg base 5 "parted" (spPartAny K N)) (c_ref : CalRef P w K mg base N "_law_refused") :
    FnOk P w K mg base L2.CX0 8 f fd ["bag"] (spPairs K T) := by
  refine F.ok sc_law_pairs_refused (fun vs H Q E h => ?_) (fun A outer s H vs Q E hr h => ?_)
  · obtain ⟨_, rfl, _⟩ := h
    rfl
  · obtain ⟨b, rfl, Ba, hT, q⟩ := h
    refine ⟨_, (pss_cons (ps_par (i := 1) (j := 2) (by rfl) sc_law_pairs_refused.nd rfl rfl (by decide) rfl rfl (pa_cons (pe_g c_law_table hr (pa_cons (pv 0) (pa_cons pe_int (pa_cons pe_int pa_nil)))) (pa_cons (pe_ix ix_list (pe_lst (pa_cons pe_non (pa_cons (pe_tup pa_nil) (pa_cons (pe_lst (pa_cons (pe_tup (pa_cons pe_int (pa_cons pe_int pa_nil))) pa_nil)) (pa_cons (pe_tup (pa_cons (pe_tup (pa_cons pe_int (pa_cons (pe_un un_neg pe_int) pa_nil))) pa_nil)) (pa_cons pe_int pa_nil)))))) (pe_g c_law_take hr (pa_cons (pv 0) (pa_cons pe_int pa_nil))) (fun _ _ => rfl)) pa_nil)) (by rfl))
      (pss_cons (ps_set (i := 3) sc_law_pairs_refused.nd rfl (Or.inl rfl) (pe_lst (pa_cons (pe_tup (pa_cons (pv 2) (pa_cons (pv 2) (pa_cons pe_str pa_nil)))) (pa_cons (pe_tup (pa_cons (pv 1) (pa_cons (pv 2) (pa_cons pe_str pa_nil)))) pa_nil))))
      (pss_cons (ps_set (i := 3) sc_law_pairs_refused.nd rfl (Or.inl rfl) (pe_op op_cat (pv 3) (pe_lst (pa_cons (pe_tup (pa_cons (pv 1) (pa_cons (pe_op op_catA (pv 1) (pe_slice sl_tupA (pv 1) po_none (po_some pe_int))) (pa_cons pe_str pa_nil)))) (pa_cons (pe_tup (pa_cons (pe_tup (pa_cons (pe_tup (pa_cons pe_int (pa_cons pe_int pa_nil))) pa_nil)) (pa_cons (pe_tup (pa_cons (pe_tup (pa_cons pe_int (pa_cons pe_int pa_nil))) pa_nil)) (pa_cons pe_str pa_nil)))) pa_nil)))))
      (pss_cons (ps_set (i := 3) sc_law_pairs_refused.nd rfl (Or.inl rfl) (pe_op op_cat (pv 3) (pe_lst (pa_cons (pe_tup (pa_cons (pe_tup (pa_cons (pe_tup (pa_cons pe_int (pa_cons pe_int pa_nil))) pa_nil)) (pa_cons (pe_tup (pa_cons (pe_tup (pa_cons pe_int (pa_cons pe_int pa_nil))) pa_nil)) (pa_cons pe_str pa_nil)))) (pa_cons (pe_tup (pa_cons (pe_op op_repT (pe_tup (pa_cons (pe_tup (pa_cons pe_int (pa_cons pe_int pa_nil))) pa_nil)) pe_int) (pa_cons (pe_tup (pa_cons (pe_tup (pa_cons pe_int (pa_cons pe_non pa_nil))) (pa_cons (pe_tup (pa_cons pe_int (pa_cons pe_int pa_nil))) pa_nil))) (pa_cons pe_str pa_nil)))) pa_nil)))))
      (pss_cons (ps_for PassesOwn.never rfl (pi_list (pv 3)) (pg_tup (by rfl) (pgs_cons (pg_name (i := 4) sc_law_pairs_refused.nd rfl (Or.inl rfl)) (pgs_cons (pg_name (i := 5) sc_law_pairs_refused.nd rfl (Or.inl rfl)) (pgs_cons (pg_name (i := 6) sc_law_pairs_refused.nd rfl (Or.inl rfl)) pgs_nil))))
      (pss_one (ps_if (pt_cmpR (op_neD hr.units) (pe_ref (mk := fun c => lamF pair_lam1 "_law_pairs_refused.<locals>.<lambda>" (cellsFrom (s.heap.objs.size + 1) (defScope s_law_pairs_refused).names []) c) (b := lamB pair_lam1) (js := []) c_ref (pair_vok1 x_parted) (fun _ => ⟨fun _ _ e => e, fun y hy => absurd hy List.not_mem_nil, fun _ _ _ e => e, rfl⟩) hr (by decide) (pa_cons (pe_lam TB rfl TI.mem rfl TI.uniq (fun y hy e => .inl (cap_cell pair_cap1 y hy e)) rfl) (pa_cons (pv 4) (pa_cons (pv 5) (pa_cons pe_int (pa_cons pe_int (pa_cons pe_int pa_nil))))))) (pe_lst (pa_cons (pv 6) (pa_cons pe_str pa_nil))) (nomark _))
      (pss_one (ps_ret pe_bl))
      pss_nil)))
      (pss_one (ps_ret (pe_cmpR (op_eqD hr.units) (pe_ref (mk := fun c => lamF pair_lam2 "_law_pairs_refused.<locals>.<lambda>" (cellsFrom (s.heap.objs.size + 1) (defScope s_law_pairs_refused).names []) c) (b := lamB pair_lam2) (js := []) c_ref (pair_vok2 x_parted) (fun _ => ⟨fun _ _ e => e, fun y hy => absurd hy List.not_mem_nil, fun _ _ _ e => e, rfl⟩) hr (by decide) (pa_cons (pe_lam TB rfl TI.mem rfl TI.uniq (fun y hy e => .inl (cap_cell pair_cap2 y hy e)) rfl) (pa_cons (pv 1) (pa_cons (pe_revT (pv 1)) (pa_cons pe_int (pa_cons pe_int (pa_cons pe_int pa_nil))))))) (pe_lst pa_nil) (nomark _))))))))), ?_⟩
    refine ⟨_, rfl, b, 4, 31, rfl, Ba, by decide, by decide, by decide, fun ta t H1 e1 tb t1 t4 lim => ?_⟩
    have ok : TabOk t := lim.ok (by decide) t1 (by omega)
    have sm : SmallT t := fun g hg => ⟨by have := (lim g hg).2.1; omega, fun m e => by have := ((lim g hg).2.2 m e).2; omega⟩
    -- bad
    refine ⟨by show 0 ≤ sizeLine; decide, fun p1 hp1 => ⟨by show 2 ≤ sizeLine; decide, fun p2 hp2 => ⟨by show 1 ≤ sizeLine; decide, fun p3 hp3 => ⟨_, rfl, by show 2 ≤ sizeLine; decide, fun p4 hp4 => ⟨by show 1 ≤ sizeLine; decide, fun p5 hp5 => ⟨by show 5 ≤ sizeLine; decide, fun p6 hp6 => ?_⟩⟩⟩⟩⟩⟩
    have g1 := same_upd (o := .tup []) hp1
    have g2 := same_upd (o := .tup [.int 0, .int 0]) hp2
    have g3 := same_upd (o := .lst [.ref p2]) hp3
    have g4 := same_upd (o := .tup [.int 0, .int (-1)]) hp4
    have g5 := same_upd (o := .tup [.ref p4]) hp5
    have g6 := same_upd (o := .lst [.non, .ref p1, .ref p3, .ref p5, .int 7]) hp6
    have e2 := e1.trans (Same.evo (Same.trans (Same.trans (Same.trans (Same.trans (Same.trans g1 g2) g3) g4) g5) g6))
    refine ⟨_, rfl, b, 5, rfl, Ba.evo e2, by decide, fun z H2 e3 z0 z1 => ?_⟩
    have k1 : H2 p1 = some (.tup []) := e3.tupH (g6 _ _ (g5 _ _ (g4 _ _ (g3 _ _ (g2 _ _ upd_same)))))
    have k2 : H2 p2 = some (.tup [.int 0, .int 0]) := e3.tupH (g6 _ _ (g5 _ _ (g4 _ _ (g3 _ _ upd_same))))
    have k3 : H2 p3 = some (.lst (([p2] : List Addr).map V.ref)) := e3.refsH (ps := [p2]) (g6 _ _ (g5 _ _ (g4 _ _ upd_same)))
    have k4 : H2 p4 = some (.tup [.int 0, .int (-1)]) := e3.tupH (g6 _ _ (g5 _ _ upd_same))
    have k5 : H2 p5 = some (.tup [.ref p4]) := e3.tupH (g6 _ _ upd_same)
    have k6 : H2 p6 = some (.lst [.non, .ref p1, .ref p3, .ref p5, .int 7]) := e3.keep upd_same fun _ _ z => by have := HO.lst.inj z; cases this
    have zk : z.toNat < ([.non, .ref p1, .ref p3, .ref p5, .int 7] : List V).length := by show z.toNat < 5; omega
    have all5 : ∀ x ∈ ([.non, .ref p1, .ref p3, .ref p5, .int 7] : List V), ∃ d, Dp K H2 x d ∧ tableD d = false := fun x hx => by
      simp only [List.mem_cons, List.not_mem_nil, or_false] at hx
      rcases hx with h | h | h | h | h <;> subst h
      · exact ⟨.none, .non, rfl⟩
      · exact ⟨.tuple [], .tup (SqT.of k1) .nil, rfl⟩
      · exact ⟨.list [.tuple [.int 0, .int 0]], .lst (SqL.of k3) (.cons (.tup (SqT.of k2) (.cons (.int 0) (.cons (.int 0) .nil))) .nil), rfl⟩
      · exact ⟨.tuple [.tuple [.int 0, .int (-1)]], .tup (SqT.of k5) (.cons (.tup (SqT.of k4) (.cons (.int 0) (.cons (.int (-1)) .nil))) .nil), by decide⟩
      · exact ⟨.int 7, .int 7, rfl⟩
    have bad := all5 _ (List.getElem_mem zk)
    refine ⟨p6, _, _, _, rfl, rfl, SqL.of k6, at_of (j := z.toNat) (by omega) (List.getElem?_eq_getElem zk), ⟨_, _, rfl, ?_⟩⟩
    generalize ([.non, .ref p1, .ref p3, .ref p5, .int 7] : List V)[z.toNat] = bd at bad ⊢
    have e02 := e2.trans e3
    have tb2 := (tb.same (Same.trans (Same.trans (Same.trans (Same.trans (Same.trans g1 g2) g3) g4) g5) g6)).evo e3
    have hT2 := e02.tabs hT
    obtain ⟨bdD, hbd, tbd⟩ := bad
    have isT : ∀ {Hx : Hp}, EvN H2 Hx → (Chk.table (.ref ta)).Is K Hx true := fun s => ⟨_, tb2.evn s, tableD_ok ok⟩
    have isB : ∀ {Hx : Hp}, EvN H2 Hx → (Chk.table bd).Is K Hx false := fun s => ⟨_, dp_evn s hbd, tbd⟩
    refine nx_mk (renorm (σ' := [some (.ref b), some (.ref ta), some bd, none, none, none, none]) rfl ?_)
    refine ⟨_, rfl, _, rfl, by show 3 ≤ sizeLine; decide, fun q1 hq1 => ⟨_, rfl, _, rfl, by show 3 ≤ sizeLine; decide, fun q2 hq2 => ⟨by show 2 ≤ sizeLine; decide, fun l1 hl1 => ?_⟩⟩⟩
    have a1 := same_upd (o := .tup [bd, bd, .str "NoTable"]) hq1
    have a2 := same_upd (o := .tup [.ref ta, bd, .str "NoTable"]) hq2
    have a3 := same_upd (o := .lst [.ref q1, .ref q2]) hl1
    have c1 := a3 _ _ (a2 _ _ (upd_same (H := H2) (a := q1) (o := .tup [bd, bd, .str "NoTable"])))
    have c2 := a3 _ _ (upd_same (H := upd H2 q1 (.tup [bd, bd, .str "NoTable"])) (a := q2) (o := .tup [.ref ta, bd, .str "NoTable"]))
    have c3 := upd_same (H := upd (upd H2 q1 (.tup [bd, bd, .str "NoTable"])) q2 (.tup [.ref ta, bd, .str "NoTable"])) (a := l1) (o := .lst [.ref q1, .ref q2])
    have v3 := Same.trans (Same.trans a1 a2) a3
    refine nx_mk (renormG (σ' := [some (.ref b), some (.ref ta), some bd, some (.ref l1), none, none, none]) rfl fun H3 eH3 => ?_)
    rw [← eH3] at c1 c2 c3 v3
    clear eH3 a1 a2 a3
    have tb3 := tb2.same v3
    obtain ⟨xs, hxs, hlx, hgx⟩ := tb3.open
    -- one piece more
    refine ⟨_, rfl, _, rfl, _, rfl, _, rfl, _, rfl, cut_to1 hxs fun r1 H4 s4 hr1 => ?_⟩
    refine cat_any (Same.sqt s4 hxs) hr1 (by rw [List.length_take]; omega) fun r2 H5 s5 hr2 => ?_
    have s35 := Same.trans s4 s5
    have tb5 : TableAt K H5 r2 (t ++ t.take 1) := .ofRefs hr2 (by rw [List.length_append, List.length_append, List.length_take, List.length_take, hlx]) fun i g hi => by
      by_cases c : i < t.length
      · rw [List.getElem?_append_left c] at hi
        obtain ⟨p, h1, h2⟩ := hgx i g hi
        exact ⟨p, by rw [List.getElem?_append_left (by omega)]; exact h1, Same.sqt s35 h2⟩
      · rw [List.getElem?_append_right (by omega)] at hi
        have i0 := (List.getElem?_eq_some_iff.mp hi).1
        rw [List.length_take] at i0
        rw [List.getElem?_take_of_lt (by omega)] at hi
        obtain ⟨p, h1, h2⟩ := hgx _ g hi
        exact ⟨p, by rw [List.getElem?_append_right (by omega), hlx, List.getElem?_take_of_lt (by omega)]; exact h1, Same.sqt s35 h2⟩
    have ok5 : TabOk (t ++ t.take 1) := ⟨by rw [List.length_append]; omega, by rw [List.length_append, List.length_take]; omega, fun g hg => by
      rcases List.mem_append.mp hg with h | h
      · exact ok.2.2 g h
      · exact ok.2.2 g (List.mem_of_mem_take h)⟩
    refine ⟨by show 3 ≤ sizeLine; decide, fun q3 hq3 => ?_⟩
    have a3 := same_upd (o := .tup [.ref ta, .ref r2, .str "NoPair"]) hq3
    refine ⟨by show 2 ≤ sizeLine; decide, fun x1 hx1 => ⟨by show 1 ≤ sizeLine; decide, fun y1 hy1 => ?_⟩⟩
    obtain ⟨f1, F1⟩ := tab1_at (K := K) (c := 31) (o := some 0) hx1 hy1
    refine ⟨by show 2 ≤ sizeLine; decide, fun x2 hx2 => ⟨by show 1 ≤ sizeLine; decide, fun y2 hy2 => ?_⟩⟩
    obtain ⟨f2, F2⟩ := tab1_at (K := K) (c := 0) (o := some 0) hx2 hy2
    refine ⟨by show 3 ≤ sizeLine; decide, fun q4 hq4 => ⟨by show 2 ≤ sizeLine; decide, fun l2 hl2 => ?_⟩⟩
    have a4 := same_upd (o := .tup [.ref y1, .ref y2, .str "NoPair"]) hq4
    have a5 := same_upd (o := .lst [.ref q3, .ref q4]) hl2
    have b3 := a5 _ _ (a4 _ _ (f2 _ _ (f1 _ _ (upd_same (H := H5) (a := q3) (o := .tup [.ref ta, .ref r2, .str "NoPair"])))))
    have b4 := a5 _ _ (upd_same (a := q4) (o := .tup [.ref y1, .ref y2, .str "NoPair"]) : _)
    have v5 := Same.trans (Same.trans (Same.trans (Same.trans a3 f1) f2) a4) a5
    have u3 := Same.trans s35 v5
    refine cat_list (u3 _ _ c3) upd_same (by show 2 + 2 ≤ 1000; decide) fun l3 H6 s6 hl3 => ?_
    have c1' := s6 _ _ (u3 _ _ c1)
    have c2' := s6 _ _ (u3 _ _ c2)
    have b3' := s6 _ _ b3
    have b4' := s6 _ _ b4
    have tb6 := tb5.same (Same.trans v5 s6)
    have F1' := F1.same (Same.trans (Same.trans (Same.trans f2 a4) a5) s6)
    have F2' := F2.same (Same.trans (Same.trans a4 a5) s6)
    have s36 := Same.trans u3 s6
    refine nx_mk (renorm (σ' := [some (.ref b), some (.ref ta), some bd, some (.ref l3), none, none, none]) rfl ?_)
    refine ⟨_, rfl, ?_⟩
    refine ⟨by show 2 ≤ sizeLine; decide, fun x3 hx3 => ⟨by show 1 ≤ sizeLine; decide, fun y3 hy3 => ?_⟩⟩
    obtain ⟨f3, F3⟩ := tab1_at (K := K) (c := 0) (o := some 0) hx3 hy3
    refine ⟨by show 2 ≤ sizeLine; decide, fun x4 hx4 => ⟨by show 1 ≤ sizeLine; decide, fun y4 hy4 => ?_⟩⟩
    obtain ⟨f4, F4⟩ := tab1_at (K := K) (c := 0) (o := some 31) hx4 hy4
    refine ⟨by show 3 ≤ sizeLine; decide, fun q5 hq5 => ?_⟩
    have a6 := same_upd (o := .tup [.ref y3, .ref y4, .str "NoPair"]) hq5
    refine ⟨by show 2 ≤ sizeLine; decide, fun x5 hx5 => ⟨by show 1 ≤ sizeLine; decide, fun m5 hm5 => ⟨m5, 2, _, rfl, rfl, SqT.of upd_same, by simp, by decide, by decide, by show 1 ≤ 1000; decide, fun y5 hy5 => ?_⟩⟩⟩
    obtain ⟨f5, F5⟩ := tabR_at (K := K) (c := 30) (o := some 30) hx5 hm5 hy5
    refine ⟨by show 2 ≤ sizeLine; decide, fun x6 hx6 => ⟨by show 2 ≤ sizeLine; decide, fun m6 hm6 => ⟨by show 2 ≤ sizeLine; decide, fun y6 hy6 => ?_⟩⟩⟩
    obtain ⟨f6, F6⟩ := tab2_at (K := K) (g := (0, none)) (g' := (31, some 0)) hx6 hm6 hy6
    refine ⟨by show 3 ≤ sizeLine; decide, fun q6 hq6 => ⟨by show 2 ≤ sizeLine; decide, fun l4 hl4 => ?_⟩⟩
    have a7 := same_upd (o := .tup [.ref y5, .ref y6, .str "NoPair"]) hq6
    have a8 := same_upd (o := .lst [.ref q5, .ref q6]) hl4
    have b5 := a8 _ _ (a7 _ _ (f6 _ _ (f5 _ _ (upd_same (a := q5) (o := .tup [.ref y3, .ref y4, .str "NoPair"]) : _))))
    have b6 := a8 _ _ (upd_same (a := q6) (o := .tup [.ref y5, .ref y6, .str "NoPair"]) : _)
    have v8 := Same.trans (Same.trans (Same.trans (Same.trans (Same.trans (Same.trans f3 f4) a6) f5) f6) a7) a8
    refine cat_list (v8 _ _ hl3) upd_same (by show 4 + 2 ≤ 1000; decide) fun l5 H7 s7 hl5 => ?_
    have v78 := Same.trans v8 s7
    have i1 := v78 _ _ c1'
    have i2 := v78 _ _ c2'
    have i3 := v78 _ _ b3'
    have i4 := v78 _ _ b4'
    have i5 := s7 _ _ b5
    have i6 := s7 _ _ b6
    have T2 := tb6.same v78
    have T31 := F1'.same v78
    have T32 := F2'.same v78
    have T41 := F3.same (Same.trans (Same.trans (Same.trans (Same.trans (Same.trans (Same.trans f4 a6) f5) f6) a7) a8) s7)
    have T42 := F4.same (Same.trans (Same.trans (Same.trans (Same.trans (Same.trans a6 f5) f6) a7) a8) s7)
    have T51 := F5.same (Same.trans (Same.trans (Same.trans f6 a7) a8) s7)
    have T52 := F6.same (Same.trans (Same.trans a7 a8) s7)
    have s37 := Same.trans s36 v78
    have s27 := Same.trans v3 s37
    have T1 := tb3.same s37
    have hT7 := Same.tabs s27 hT2
    have sg : ∀ (c m : Int), 0 ≤ c → c ≤ 31 → 0 ≤ m → m ≤ 31 → (0 ≤ ((c, some m) : Guest).1 ∧ ((c, some m) : Guest).1 ≤ 1000000000000000000 ∧ ∀ m', ((c, some m) : Guest).2 = some m' → 0 ≤ m' ∧ m' ≤ 1000000000000000000) := fun c m h1 h2 h3 h4 => ⟨h1, by show c ≤ _; omega, fun m' e => by cases e; omega⟩
    have o1 : ∀ {g : Guest}, (0 ≤ g.1 ∧ g.1 ≤ 1000000000000000000 ∧ ∀ m', g.2 = some m' → 0 ≤ m' ∧ m' ≤ 1000000000000000000) → TabOk [g] := fun h => ⟨by show 1 ≤ 1; decide, by show 1 ≤ 8; decide, fun x hx => by rw [List.mem_singleton.mp hx]; exact h⟩
    have o2 : ∀ {g g' : Guest}, (0 ≤ g.1 ∧ g.1 ≤ 1000000000000000000 ∧ ∀ m', g.2 = some m' → 0 ≤ m' ∧ m' ≤ 1000000000000000000) → (0 ≤ g'.1 ∧ g'.1 ≤ 1000000000000000000 ∧ ∀ m', g'.2 = some m' → 0 ≤ m' ∧ m' ≤ 1000000000000000000) → TabOk [g, g'] := fun h h' => ⟨by show 1 ≤ 2; decide, by show 2 ≤ 8; decide, fun x hx => by
      rcases List.mem_cons.mp hx with e | hx
      · rw [e]; exact h
      · rw [List.mem_singleton.mp hx]; exact h'⟩
    have ev7 := Same.evn s27
    have dues : ∀ q ∈ ([q1, q2, q3, q4, q5, q6] : List Addr), ∃ (x y : V) (C : Addr) (nm : Str), H7 q = some (.tup [x, y, .str nm]) ∧ (C, nm) ∈ N.named ∧ PairNo K N H7 x y C := fun q hq => by
      simp only [List.mem_cons, List.not_mem_nil, or_false] at hq
      rcases hq with h | h | h | h | h | h <;> subst h
      · exact ⟨bd, bd, N.table, "NoTable", i1, by simp [Errs.named], .inl (.here (isB ev7))⟩
      · exact ⟨.ref ta, bd, N.table, "NoTable", i2, by simp [Errs.named], .inl (.later (isT ev7) (.here (isB ev7)))⟩
      · exact ⟨_, _, N.pair, "NoPair", i3, by simp [Errs.named], .inr ⟨rfl, _, _, _, _, rfl, rfl, T1, T2, ok, ok5, .inl (by rw [List.length_append, List.length_take]; omega)⟩⟩
      · exact ⟨_, _, N.pair, "NoPair", i4, by simp [Errs.named], .inr ⟨rfl, _, _, _, _, rfl, rfl, T31, T32, o1 (sg 31 0 (by decide) (by decide) (by decide) (by decide)), o1 (sg 0 0 (by decide) (by decide) (by decide) (by decide)), .inr (.inl (by decide))⟩⟩
      · exact ⟨_, _, N.pair, "NoPair", i5, by simp [Errs.named], .inr ⟨rfl, _, _, _, _, rfl, rfl, T41, T42, o1 (sg 0 0 (by decide) (by decide) (by decide) (by decide)), o1 (sg 0 31 (by decide) (by decide) (by decide) (by decide)), .inr (.inr (by decide))⟩⟩
      · exact ⟨_, _, N.pair, "NoPair", i6, by simp [Errs.named], .inr ⟨rfl, _, _, _, _, rfl, rfl, T51, T52, o2 (sg 30 30 (by decide) (by decide) (by decide) (by decide)) (sg 30 30 (by decide) (by decide) (by decide) (by decide)), o2 ⟨by decide, by decide, fun m' e => by cases e⟩ (sg 31 0 (by decide) (by decide) (by decide) (by decide)), .inr (.inr (by decide))⟩⟩
    have hl5' : H7 l5 = some (.lst (([q1, q2, q3, q4, q5, q6] : List Addr).map V.ref)) := hl5
    refine nx_mk (renorm (σ' := [some (.ref b), some (.ref ta), some bd, some (.ref l5), none, none, none]) rfl ?_)
    refine ⟨_, rfl, l5, rfl, ⟨_, SqL.of hl5'⟩, ?_⟩
    refine for_list (K := K) (a := l5) (xs := ([q1, q2, q3, q4, q5, q6] : List Addr).map V.ref) (fun j σ H' => ∃ (v4 v5 v6 : Option V), σ = [some (.ref b), some (.ref ta), some bd, some (.ref l5), v4, v5, v6] ∧ EvN H7 H' ∧ TabsN T H') ⟨none, none, none, rfl, EvN.refl _, hT7⟩ ?_ ?_ ?_
    · rintro j σ H' hj ⟨v4, v5, v6, rfl, ev, hT'⟩
      exact ev.sql (SqL.of hl5')
    · rintro j x σ H8 hx ⟨v4, v5, v6, rfl, ev, hT8⟩
      obtain ⟨q0, hq0, rfl⟩ : ∃ q0, q0 ∈ ([q1, q2, q3, q4, q5, q6] : List Addr) ∧ x = .ref q0 := by
        obtain ⟨q0, h1, h2⟩ := List.mem_map.mp (List.mem_of_getElem? hx)
        exact ⟨q0, h1, h2.symm⟩
      obtain ⟨x, y, C, nm, hq, mem, no⟩ := dues q0 hq0
      have hq8 := ev.tup hq
      refine ⟨q0, _, rfl, SqT.of hq8, rfl, _, _, rfl, _, _, rfl, _, _, rfl, rfl, ?_⟩
      refine renorm (σ' := [some (.ref b), some (.ref ta), some bd, some (.ref l5), some x, some y, some (.str nm)]) rfl ?_
      refine guardR (fun H' => EvN H8 H' ∧ TabsN T H') (fun Q' k => ?_) (fun H9 r9 => ?_)
      · refine ⟨hT8, fun fl cl Ha x1 x2 hTa kf kc => ?_⟩
        have ea : EvN H8 Ha := ⟨x1, x2⟩
        refine ⟨_, rfl, _, rfl, fl, cl, _, _, _, _, _, rfl, ⟨kf, kc⟩, .inr ⟨C, nm, mem, fun H0 Qc Ec s0 kE => ⟨_, _, _, _, _, rfl, .inr ((no.evn (ev.trans (ea.trans (Same.evn s0)))).xp kE)⟩, fun r Hb sb hr => ?_⟩⟩
        refine ⟨_, rfl, by show 2 ≤ sizeLine; decide, fun l6 hl6 => ?_⟩
        have s10 := same_upd (o := .lst [.str nm, .str "ValueError"]) hl6
        exact ne_strs (named_ok mem) (by decide +kernel) (s10 _ _ hr) upd_same ⟨_, rfl, k _ ⟨(ea.trans (Same.evn sb)).trans (Same.evn s10), Same.tabs s10 (Same.tabs sb hTa)⟩⟩
      · exact ⟨_, _, _, rfl, ev.trans r9.1, r9.2⟩
    · rintro σ H8 ⟨v4, v5, v6, rfl, ev, hT8⟩
      refine nx_mk ?_
      refine ⟨hT8, fun fl cl Ha x1 x2 hTa kf kc => ?_⟩
      have ea : EvN H8 Ha := ⟨x1, x2⟩
      have e7a := ev.trans ea
      have Ta := T1.evn e7a
      obtain ⟨ys, hys, hly, hgy⟩ := Ta.open
      refine ⟨_, rfl, _, rfl, ta, ys, rfl, hys, fun r3 Hb sb hr3 => ?_⟩
      have tr : TableAt K Hb r3 t.reverse := .ofRefs hr3 (by rw [List.length_reverse, List.length_reverse, hly]) fun i g hi => by
        have il := (List.getElem?_eq_some_iff.mp hi).1
        rw [List.length_reverse] at il
        rw [List.getElem?_reverse il] at hi
        obtain ⟨p, h1, h2⟩ := hgy _ g hi
        exact ⟨p, by rw [List.getElem?_reverse (by omega), hly]; exact h1, Same.sqt sb h2⟩
      have okr : TabOk t.reverse := ⟨by rw [List.length_reverse]; exact ok.1, by rw [List.length_reverse]; exact ok.2.1, fun g hg => ok.2.2 g (List.mem_reverse.mp hg)⟩
      have smr : SmallT t.reverse := fun g hg => sm g (List.mem_reverse.mp hg)
      refine ⟨fl, cl, _, _, _, _, _, rfl, ⟨sb _ _ kf, sb _ _ kc⟩, .inl ⟨fun H0 H' => Same H0 H', fun H0 Qc Ec s0 kQ => ⟨_, _, _, _, _, rfl, .inl ⟨ta, r3, t, t.reverse, rfl, Ta.same (Same.trans sb s0), tr.same s0, ok, okr, by rw [List.length_reverse], sm, smr, fun v H' s' _ => kQ v H' s'⟩⟩, fun r H0 Hc s0 hr0 sc => ?_⟩⟩
      refine ⟨by show 0 ≤ sizeLine; decide, fun l6 hl6 => ?_⟩
      have s11 := same_upd (o := .lst []) hl6
      have hrc := s11 _ _ (sc _ _ hr0)
      have s9 := Same.trans (Same.trans (Same.trans sb s0) sc) s11
      refine eq_same (ns := []) (SqL.of hrc) (SqL.of upd_same) (q _ ?_ ?_)
      · exact e02.w.trans ((Same.evo s27).w.trans (e7a.w.trans (Same.evn s9).w))
      · exact Same.tabs s9 hTa
end
end Lp
namespace Lp
open PySem PySem.Spec PyProof.Rows L2 LamX NdefX
/-! ### d.update(d2) of two tracked dicts -/
def rUpdate : V → List V → Hp → VK → Prop := fun x vs H Q => ∃ (d b : Addr) (kvs more : List (Key × V)), x = .ref d ∧ vs = [.ref b] ∧ d ≠ b ∧ H d = some (.dK kvs) ∧ H b = some (.dK more) ∧ kvs.length + more.length ≤ sizeLine ∧ Q .non (upd H d (.dK (mergeK kvs more)))
theorem mt_update {X : Cx} : MtR X "dict.update" rUpdate := by
  intro pins s σ H x vs v us Q I rx rv h
  obtain ⟨d, b, kvs, more, rfl, rfl, hne, hd, hb, hz, q⟩ := h
  cases rx
  obtain ⟨u, rfl, ru⟩ := vals1 rv
  cases ru
  obtain ⟨z, hsd, vs, rel, dd⟩ := dk_of I.hok hd
  obtain ⟨z2, hsb, vs2, rel2, dd2⟩ := dk_of I.hok hb
  refine call_meetsIn PySem.F.slot_dict_update dd.typeIs PySem.F.entry_dict_update (PySem.F.args_dict_update_2 _ _) (meets_dict_update (mixKind X.prog X.w) d b hne hsb) ⟨vs, vs2, dd, dd2, by rw [← rel.length, ← rel2.length]; exact hz, fun h' dd' _ hs => ?_⟩
  have hz' : (mergeK kvs more).length ≤ sizeLine := Nat.le_trans (length_mergeK more kvs) hz
  have he : ∃ q, h'.get? d = some q := let ⟨q, _, _, hq, _⟩ := dd'; ⟨q, hq⟩
  exact ⟨.non, _, d_write (t' := s.toks) I (by rw [hd]; exact True.intro) hs he (dk_new hz' hsd (rel2.merge rel) dd'), rfl, q⟩
theorem mergeK_app : ∀ (more kvs : List (Key × V)), ((kvs ++ more).map (·.1)).Nodup → mergeK kvs more = kvs ++ more
  | [], kvs, _ => by rw [List.append_nil]; rfl
  | p :: r, kvs, h => by
    have e : kvs ++ p :: r = (kvs ++ [p]) ++ r := by simp
    have hv : valV kvs p.1 = none := by
      cases q : valV kvs p.1 with
      | none => rfl
      | some v =>
        have m := valV_in q
        rw [List.map_append, List.map_cons] at h
        have := (List.nodup_append.mp h).2.2 _ m _ List.mem_cons_self
        exact absurd rfl this
    show mergeK (putK kvs p.1 p.2) r = _
    rw [putK_new p.2 hv, e]
    exact mergeK_app r (kvs ++ [(p.1, p.2)]) (by rw [e] at h; exact h)
theorem valV_mem : ∀ {kvs : List (Key × V)} {k : Key} {v : V}, (kvs.map (·.1)).Nodup → (k, v) ∈ kvs → valV kvs k = some v
  | p :: r, k, v, h, m => by
    have h' : (p.1 :: r.map (·.1)).Nodup := h
    obtain ⟨h1, h2⟩ := List.nodup_cons.mp h'
    rcases List.mem_cons.mp m with e | m
    · subst e
      exact valV_pos rfl
    · rw [valV_neg fun e => h1 (by rw [e]; exact List.mem_map.mpr ⟨_, m, rfl⟩)]
      exact valV_mem h2 m
/-! ### displays of lists of texts by texts -/
/-- a term that makes a list of these texts -/
def Makes (σ : L2.St) (ds : List Str) (te : TE) : Prop := ∀ (H : Hp) (Q : VK), (∀ (a : Addr) (H' : Hp), Same H H' → H' a = some (.lst (ds.map V.str)) → Q (.ref a) H') → te σ H Q
/-- keys and lists -/
def Holds (H : Hp) (xs : List (Str × List Str)) (kvs : List (Key × V)) : Prop := kvs.map (·.1) = xs.map (fun p => (Sum.inr p.1 : Key)) ∧ ∀ kv ∈ kvs, ∃ (x : Str) (a : Addr) (ds : List Str), kv = (Sum.inr x, .ref a) ∧ H a = some (.lst (ds.map V.str)) ∧ (x, ds) ∈ xs
theorem Holds.same {H H' : Hp} {xs : List (Str × List Str)} {kvs : List (Key × V)} (h : Holds H xs kvs) (k : ∀ a ys, H a = some (.lst ys) → H' a = some (.lst ys)) : Holds H' xs kvs :=
  ⟨h.1, fun kv hkv => by
    obtain ⟨x, a, ds, e1, e2, e3⟩ := h.2 kv hkv
    exact ⟨x, a, ds, e1, k _ _ e2, e3⟩⟩
theorem Holds.app {H : Hp} {xs ys : List (Str × List Str)} {kvs more : List (Key × V)} (h : Holds H xs kvs) (h' : Holds H ys more) : Holds H (xs ++ ys) (kvs ++ more) :=
  ⟨by rw [List.map_append, List.map_append, h.1, h'.1], fun kv hkv => by
    rcases List.mem_append.mp hkv with m | m
    · obtain ⟨x, a, ds, e1, e2, e3⟩ := h.2 kv m
      exact ⟨x, a, ds, e1, e2, List.mem_append_left _ e3⟩
    · obtain ⟨x, a, ds, e1, e2, e3⟩ := h'.2 kv m
      exact ⟨x, a, ds, e1, e2, List.mem_append_right _ e3⟩⟩
theorem pairs_strs {σ : L2.St} : ∀ (items : List ((Str × List Str) × TE)), (∀ it ∈ items, Makes σ it.1.2 it.2) → ∀ (H : Hp) (Q : List (V × V) → Hp → Prop),
    (∀ (H' : Hp) (kvs : List (Key × V)), Same H H' → Holds H' (items.map (·.1)) kvs → Q (kvs.map fun kv => (kV kv.1, kv.2)) H') → tPairs (items.map fun it => (tC (.str it.1.1), it.2)) σ H Q
  | [], _, H, Q, q => q H [] (Same.refl H) ⟨rfl, fun kv h => absurd h List.not_mem_nil⟩
  | it :: r, hm, H, Q, q => by
    show it.2 σ H _
    refine hm it List.mem_cons_self H _ fun a H1 s1 ha => ?_
    refine pairs_strs r (fun it' h => hm it' (List.mem_cons_of_mem _ h)) H1 _ fun H2 kvs s2 hh => ?_
    refine q H2 ((Sum.inr it.1.1, .ref a) :: kvs) (Same.trans s1 s2) ⟨by rw [List.map_cons, List.map_cons, List.map_cons, hh.1], fun kv hkv => ?_⟩
    rcases List.mem_cons.mp hkv with e | m
    · exact ⟨it.1.1, a, it.1.2, e, s2 _ _ ha, List.mem_cons_self⟩
    · obtain ⟨x, a', ds, e1, e2, e3⟩ := hh.2 kv m
      exact ⟨x, a', ds, e1, e2, List.mem_cons_of_mem _ e3⟩
theorem disp_strs {σ : L2.St} {H : Hp} {Q : VK} (items : List ((Str × List Str) × TE)) (hm : ∀ it ∈ items, Makes σ it.1.2 it.2) (hl : items.length ≤ 15) (nd : (items.map fun it => (Sum.inr it.1.1 : Key)).Nodup)
    (q : ∀ (p : Addr) (H' : Hp) (kvs : List (Key × V)), Same H H' → H p = none → H' p = some (.dK kvs) → Holds H' (items.map (·.1)) kvs → Q (.ref p) H') : tDisp (items.map fun it => (tC (.str it.1.1), it.2)) σ H Q := by
  intro p hp
  refine pairs_strs items hm _ _ fun H2 kvs s2 hh => ?_
  have hp2 : H2 p = some (.dK []) := s2 _ _ upd_same
  have hk : kvs.map (·.1) = items.map fun it => (Sum.inr it.1.1 : Key) := by rw [hh.1, List.map_map]; rfl
  have hlen : kvs.length = items.length := by have := congrArg List.length hk; rwa [List.length_map, List.length_map] at this
  refine ⟨hp2, kvs, rfl, by omega, ?_⟩
  have e : mergeK [] kvs = kvs := by
    rw [mergeK_app kvs [] (by rw [List.nil_append, hk]; exact nd)]
    rfl
  rw [e]
  refine q p _ kvs (fun b o hb => ?_) hp upd_same (hh.same fun a ys ha => ?_)
  · have n : b ≠ p := fun z => by rw [z, hp] at hb; cases hb
    rw [upd_ne n]
    exact s2 _ _ (by rw [upd_ne n]; exact hb)
  · have n : a ≠ p := fun z => by rw [z, hp2] at ha; cases ha
    rw [upd_ne n]
    exact ha
theorem makes_lst {σ : L2.St} {t : TA} {ds : List Str} (ht : ∀ (H : Hp) (Q : List V → Hp → Prop), Q (ds.map V.str) H → t σ H Q) (hl : ds.length ≤ 1000) : Makes σ ds (tLst t) := fun H Q q =>
  ht H _ ⟨by rw [List.length_map]; have : (1000 : Nat) ≤ sizeLine := by decide
             omega, fun p hp => q p _ (same_upd hp) upd_same⟩
/-! ### the lock -/
def Dct (H : Hp) (d : Addr) : Prop := ∃ kvs, Rd H d (.dK kvs)
/-- the same but at d -/
def But (d : Addr) (H H' : Hp) : Prop := ∀ a, a ≠ d → H' a = H a
theorem But.upd (d : Addr) (H : Hp) (u : HO) : But d H (upd H d u) := fun _ h => upd_ne h
theorem But.symm {d : Addr} {H H' : Hp} (h : But d H H') : But d H' H := fun a n => (h a n).symm
theorem Dct.ne {H : Hp} {d a : Addr} {u : HO} (h : Dct H d) (r : Rd H a u) (n : ∀ kvs, u ≠ .dK kvs) (m : ∀ o u', u ≠ .frz o u') : a ≠ d := by
  intro e
  subst e
  obtain ⟨kvs, h⟩ := h
  rcases h with h | ⟨o, h⟩ <;> rcases r with r | ⟨o', r⟩ <;> rw [h] at r <;> cases r
  · exact n _ rfl
  · exact m _ _ rfl
  · exact n _ rfl
theorem But.rd {H H' : Hp} {d a : Addr} {u : HO} (e : But d H H') (h : Dct H d) (r : Rd H a u) (n : ∀ kvs, u ≠ .dK kvs) (m : ∀ o u', u ≠ .frz o u') : Rd H' a u := by
  have z := h.ne r n m
  rcases r with r | ⟨o, r⟩
  · exact .inl (by rw [e a z]; exact r)
  · exact .inr ⟨o, by rw [e a z]; exact r⟩
theorem But.at {H H' : Hp} {d a : Addr} {u : HO} (e : But d H H') (h : Dct H d) (r : H a = some u) (n : ∀ kvs, u ≠ .dK kvs) (m : ∀ o u', u ≠ .frz o u') : H' a = some u := by
  rw [e a (h.ne (.inl r) n m)]; exact r
theorem But.sqt {K : PySem.W.Frag} {H H' : Hp} {d a : Addr} {xs : List V} (e : But d H H') (h : Dct H d) (r : SqT K H a xs) : SqT K H' a xs := by
  rcases r with r | r
  · exact .inl (e.rd h r (fun _ z => by cases z) fun _ _ z => by cases z)
  · exact .inr r
theorem But.sql {K : PySem.W.Frag} {H H' : Hp} {d a : Addr} {xs : List V} (e : But d H H') (h : Dct H d) (r : SqL K H a xs) : SqL K H' a xs := by
  rcases r with r | r
  · exact .inl (e.rd h r (fun _ z => by cases z) fun _ _ z => by cases z)
  · exact .inr r
theorem dp_gen {K : PySem.W.Frag} {H H' : Hp} (el : ∀ a xs, SqL K H a xs → SqL K H' a xs) (et : ∀ a xs, SqT K H a xs → SqT K H' a xs) {v : V} {d : PyData} (h : Dp K H v d) : Dp K H' v d := by
  have key : ∀ (n : Nat), (∀ (d : PyData) (v : V), sizeOf d < n → Dp K H v d → Dp K H' v d) ∧ ∀ (ds : List PyData) (vs : List V), sizeOf ds < n → DpAll K H vs ds → DpAll K H' vs ds := by
    intro n
    induction n with
    | zero => exact ⟨fun _ _ h => absurd h (Nat.not_lt_zero _), fun _ _ h => absurd h (Nat.not_lt_zero _)⟩
    | succ n ih =>
      refine ⟨fun d v hn h => ?_, fun ds vs hn h => ?_⟩
      · cases h with
        | non => exact .non
        | bl b => exact .bl b
        | int i => exact .int i
        | str x => exact .str x
        | lst hs ha => exact .lst (el _ _ hs) (ih.2 _ _ (by simp only [PyData.list.sizeOf_spec] at hn; omega) ha)
        | tup hs ha => exact .tup (et _ _ hs) (ih.2 _ _ (by simp only [PyData.tuple.sizeOf_spec] at hn; omega) ha)
      · cases h with
        | nil => exact .nil
        | cons h1 h2 =>
          simp only [List.cons.sizeOf_spec] at hn
          exact .cons (ih.1 _ _ (by omega) h1) (ih.2 _ _ (by omega) h2)
  exact (key (sizeOf d + 1)).1 d v (Nat.lt_succ_self _) h
theorem But.dp {K : PySem.W.Frag} {H H' : Hp} {d : Addr} {v : V} {z : PyData} (e : But d H H') (h : Dct H d) (r : Dp K H v z) : Dp K H' v z := dp_gen (fun _ _ => e.sql h) (fun _ _ => e.sqt h) r
theorem But.table {K : PySem.W.Frag} {H H' : Hp} {d a : Addr} {t : List Guest} (e : But d H H') (h : Dct H d) (r : TableAt K H a t) : TableAt K H' a t := e.dp h r
theorem But.bag {K : PySem.W.Frag} {H H' : Hp} {d b : Addr} (e : But d H H') (h : Dct H d) (r : BagAt K H b) : BagAt K H' b := by
  obtain ⟨l, i, ns, h1, h2, h3, h4, h5⟩ := r
  exact ⟨l, i, ns, e.at h h1 (fun _ z => by cases z) (fun _ _ z => by cases z), h2, e.sql h h3, h4, h5⟩
theorem But.tabs {T : List NTab} {H H' : Hp} {d : Addr} (e : But d H H') (h : Dct H d) (r : TabsN T H) : TabsN T H' := fun p hp => by
  obtain ⟨ps, h1, h2, h3⟩ := r p hp
  refine ⟨ps, e.at h h1 (fun _ z => by cases z) (fun _ _ z => by cases z), h2, fun pos cv hc => ?_⟩
  obtain ⟨c, e1, e2⟩ := h3 pos cv hc
  exact ⟨c, e1, e.at h e2 (fun _ z => by unfold CodeO at z; cases z) (fun _ _ z => by unfold CodeO at z; cases z)⟩
theorem evw_unlock {H H' : Hp} {d : Addr} {u : HO} {o : Obj} (hd : H d = some u) (e : Evw (upd H d (.frz o u)) H') : Evw H (upd H' d u) := fun a x h => by
  by_cases n : a = d
  · subst n
    rw [hd] at h
    cases h
    exact .inl upd_same
  · rw [upd_ne n]
    exact e a x (by rw [upd_ne n]; exact h)
/-- data that stays where bags turn and tables of code objects grow -/
def DpE (K : PySem.W.Frag) (H : Hp) (v : V) (z : PyData) : Prop := ∀ H', Evw H H' → Dp K H' v z
theorem DpE.now {K : PySem.W.Frag} {H : Hp} {v : V} {z : PyData} (h : DpE K H v z) : Dp K H v z := h H (Evw.refl H)
theorem DpE.evw {K : PySem.W.Frag} {H H' : Hp} {v : V} {z : PyData} (h : DpE K H v z) (e : Evw H H') : DpE K H' v z := fun H2 e2 => h H2 (e.trans e2)
theorem DpE.lock {K : PySem.W.Frag} {H : Hp} {v : V} {z : PyData} {d : Addr} {kvs : List (Key × V)} {o : Obj} (h : DpE K H v z) (hd : H d = some (.dK kvs)) : DpE K (upd H d (.frz o (.dK kvs))) v z := fun H' e => by
  have := h _ (evw_unlock hd e)
  exact (But.upd d H' (.dK kvs)).symm.dp ⟨kvs, .inl upd_same⟩ this
theorem Holds.len {H : Hp} {xs : List (Str × List Str)} {kvs : List (Key × V)} (h : Holds H xs kvs) : kvs.length = xs.length := by
  have := congrArg List.length h.1
  rwa [List.length_map, List.length_map] at this
theorem upd_dict {H0 H1 H2 H3 : Hp} {p q : Addr} {kvs more : List (Key × V)} {xs ys : List (Str × List Str)} (hp : H0 p = none) (s1 : Same H0 H1) (s2 : Same H1 H2) (hd : H1 p = some (.dK kvs)) (h1 : Holds H1 xs kvs) (h2 : Holds H2 ys more) (nd : ((xs ++ ys).map fun p => (Sum.inr p.1 : Key)).Nodup)
    (e : H3 = upd H2 p (.dK (mergeK kvs more))) : Same H0 H3 ∧ H3 p = some (.dK (kvs ++ more)) ∧ Holds H3 (xs ++ ys) (kvs ++ more) := by
  have hh := (h1.same fun a ys ha => s2 _ _ ha).app h2
  rw [mergeK_app more kvs (by rw [hh.1]; exact nd)] at e
  subst e
  have hd2 := s2 _ _ hd
  refine ⟨fun b o hb => ?_, upd_same, hh.same fun a ys ha => ?_⟩
  · have n : b ≠ p := fun z => by rw [z, hp] at hb; cases hb
    rw [upd_ne n]
    exact s2 _ _ (s1 _ _ hb)
  · have n : a ≠ p := fun z => by rw [z, hd2] at ha; cases ha
    rw [upd_ne n]
    exact ha
end Lp
namespace Lp
open PySem PySem.Spec PyProof.Rows L2 LamX NdefX
/-! ### the eight words and what each refuses -/
def words8 : List (Str × List Str) := [("shares", []), ("left", []), ("taker", ["NoNumber"]), ("gains", []), ("dishes", ["NoShares"]), ("least", ["NoShares"]), ("courtesies", ["NoShares", "NoSeat"]), ("enoughs", ["NoShares", "NoSeat"])]
def dueOf : List Str → Str
  | [] => "NoSeat"
  | d :: _ => d
structure WordDo (K : PySem.W.Frag) (N : Errs) (H : Hp) (n : Nat) (tv dv sv bad odd nn third worse : V) (x : Str) (ds : List Str) : Prop where
  c1 : ∃ cs, Asks x bad odd worse nn nn cs ∧ Refuses K N H cs N.table
  c2 : x ≠ "dishes" → x ≠ "least" → ∃ cs, Asks x tv odd worse nn nn cs ∧ Refuses K N H cs N.dish
  c3 : ∃ cs C, Asks x tv dv worse nn nn cs ∧ Refuses K N H cs C ∧ (C, dueOf ds) ∈ N.named
  c4 : ∃ cs, Asks x tv dv third nn nn cs ∧ Refuses K N H cs N.seat
  c5 : ∃ cs, Asks x tv dv third sv nn cs ∧ Refuses K N H cs N.seat
  c6 : Third K H n x third
theorem WordDo.evn {K : PySem.W.Frag} {N : Errs} {H H' : Hp} {n : Nat} {tv dv sv bad odd nn third worse : V} {x : Str} {ds : List Str} (h : WordDo K N H n tv dv sv bad odd nn third worse x ds) (e : EvN H H') : WordDo K N H' n tv dv sv bad odd nn third worse x ds where
  c1 := h.c1.imp fun _ q => ⟨q.1, q.2.evn e⟩
  c2 := fun a b => (h.c2 a b).imp fun _ q => ⟨q.1, q.2.evn e⟩
  c3 := let ⟨cs, C, q1, q2, q3⟩ := h.c3; ⟨cs, C, q1, q2.evn e, q3⟩
  c4 := h.c4.imp fun _ q => ⟨q.1, q.2.evn e⟩
  c5 := h.c5.imp fun _ q => ⟨q.1, q.2.evn e⟩
  c6 := h.c6.evn e
theorem named_table (N : Errs) : (N.table, ("NoTable" : Str)) ∈ N.named := by simp [Errs.named]
theorem named_dish (N : Errs) : (N.dish, ("NoDish" : Str)) ∈ N.named := by simp [Errs.named]
theorem named_seat (N : Errs) : (N.seat, ("NoSeat" : Str)) ∈ N.named := by simp [Errs.named]
theorem named_shares (N : Errs) : (N.shares, ("NoShares" : Str)) ∈ N.named := by simp [Errs.named]
theorem named_number (N : Errs) : (N.number, ("NoNumber" : Str)) ∈ N.named := by simp [Errs.named]
theorem word_do {K : PySem.W.Frag} {N : Errs} {H : Hp} {n : Nat} {ta : Addr} {dv sv bad odd nn third worse : V} {x : Str} {ds : List Str} (hx : (x, ds) ∈ words8)
    (iB : (Chk.table bad).Is K H false) (iT : (Chk.table (.ref ta)).Is K H true) (iO : (Chk.dish odd).Is K H false) (iD : (Chk.dish dv).Is K H true) (iN : (Chk.seat (.ref ta) nn).Is K H false) (iS : (Chk.seat (.ref ta) sv).Is K H true)
    (hs : ds.contains "NoShares" = true → (∃ (a : Addr) (ns : List Int), third = .ref a ∧ SqL K H a (ns.map V.int) ∧ ns.length = n ∧ ∀ m ∈ ns, 0 ≤ m ∧ m ≤ 1000000000000000000) ∧ (Chk.shares (.ref ta) third).Is K H true ∧ (Chk.shares (.ref ta) worse).Is K H false)
    (hn : ds.contains "NoShares" = false → third = .int 1 ∧ (Chk.number worse).Is K H false) : WordDo K N H n (.ref ta) dv sv bad odd nn third worse x ds := by
  have one : (Chk.number (.int 1)).Is K H true := ⟨_, .int 1, by decide⟩
  simp only [words8, List.mem_cons, Prod.mk.injEq, List.not_mem_nil, or_false] at hx
  rcases hx with ⟨rfl, rfl⟩ | ⟨rfl, rfl⟩ | ⟨rfl, rfl⟩ | ⟨rfl, rfl⟩ | ⟨rfl, rfl⟩ | ⟨rfl, rfl⟩ | ⟨rfl, rfl⟩ | ⟨rfl, rfl⟩
  · obtain ⟨rfl, _⟩ := hn rfl
    exact ⟨⟨_, .shares .., .here iB⟩, fun _ _ => ⟨_, .shares .., .later iT (.here iO)⟩, ⟨_, _, .shares .., .later iT (.later iD (.here iN)), named_seat N⟩, ⟨_, .shares .., .later iT (.later iD (.here iN))⟩, ⟨_, .shares .., .later iT (.later iD (.here iN))⟩, .shares _⟩
  · obtain ⟨rfl, _⟩ := hn rfl
    exact ⟨⟨_, .left .., .here iB⟩, fun _ _ => ⟨_, .left .., .later iT (.here iO)⟩, ⟨_, _, .left .., .later iT (.later iD (.here iN)), named_seat N⟩, ⟨_, .left .., .later iT (.later iD (.here iN))⟩, ⟨_, .left .., .later iT (.later iD (.here iN))⟩, .left _⟩
  · obtain ⟨rfl, w⟩ := hn (by decide +kernel)
    exact ⟨⟨_, .taker .., .here iB⟩, fun _ _ => ⟨_, .taker .., .later iT (.here iO)⟩, ⟨_, _, .taker .., .later iT (.later iD (.here w)), named_number N⟩, ⟨_, .taker .., .later iT (.later iD (.later one (.here iN)))⟩, ⟨_, .taker .., .later iT (.later iD (.later one (.here iN)))⟩, .taker 1 (by decide) (by decide)⟩
  · obtain ⟨rfl, _⟩ := hn rfl
    exact ⟨⟨_, .gains .., .here iB⟩, fun _ _ => ⟨_, .gains .., .later iT (.here iO)⟩, ⟨_, _, .gains .., .later iT (.later iD (.here iN)), named_seat N⟩, ⟨_, .gains .., .later iT (.later iD (.here iN))⟩, ⟨_, .gains .., .later iT (.later iD (.here iN))⟩, .gains _⟩
  · obtain ⟨⟨a, ns, rfl, s1, s2, s3⟩, g, w⟩ := hs (by decide +kernel)
    exact ⟨⟨_, .dishes .., .here iB⟩, fun z _ => absurd rfl z, ⟨_, _, .dishes .., .later iT (.here w), named_shares N⟩, ⟨_, .dishes .., .later iT (.later g (.here iN))⟩, ⟨_, .dishes .., .later iT (.later g (.here iN))⟩, .dishes a ns s1 s2 s3⟩
  · obtain ⟨⟨a, ns, rfl, s1, s2, s3⟩, g, w⟩ := hs (by decide +kernel)
    exact ⟨⟨_, .least .., .here iB⟩, fun _ z => absurd rfl z, ⟨_, _, .least .., .later iT (.here w), named_shares N⟩, ⟨_, .least .., .later iT (.later g (.here iN))⟩, ⟨_, .least .., .later iT (.later g (.here iN))⟩, .least a ns s1 s2 s3⟩
  · obtain ⟨⟨a, ns, rfl, s1, s2, s3⟩, g, w⟩ := hs (by decide +kernel)
    exact ⟨⟨_, .courtesies .., .here iB⟩, fun _ _ => ⟨_, .courtesies .., .later iT (.here iO)⟩, ⟨_, _, .courtesies .., .later iT (.later iD (.here w)), named_shares N⟩, ⟨_, .courtesies .., .later iT (.later iD (.later g (.here iN)))⟩, ⟨_, .courtesies .., .later iT (.later iD (.later g (.later iS (.here iN))))⟩, .courtesies a ns s1 s2 s3⟩
  · obtain ⟨⟨a, ns, rfl, s1, s2, s3⟩, g, w⟩ := hs (by decide +kernel)
    exact ⟨⟨_, .enoughs .., .here iB⟩, fun _ _ => ⟨_, .enoughs .., .later iT (.here iO)⟩, ⟨_, _, .enoughs .., .later iT (.later iD (.here w)), named_shares N⟩, ⟨_, .enoughs .., .later iT (.later iD (.later g (.here iN)))⟩, ⟨_, .enoughs .., .later iT (.later iD (.later g (.later iS (.here iN))))⟩, .enoughs a ns s1 s2 s3⟩
/-- the dict of the words -/
def WordsOk (H : Hp) (kvs : List (Key × V)) : Prop := Holds H words8 kvs ∧ (kvs.map (·.1)).Nodup
theorem words_nd : (words8.map fun p => (Sum.inr p.1 : Key)).Nodup := by decide +kernel
theorem WordsOk.of {H : Hp} {kvs : List (Key × V)} (h : Holds H words8 kvs) : WordsOk H kvs := ⟨h, by rw [h.1]; exact words_nd⟩
theorem WordsOk.evw {H H' : Hp} {kvs : List (Key × V)} (h : WordsOk H kvs) (e : Evw H H') : WordsOk H' kvs :=
  ⟨⟨h.1.1, fun kv hkv => by
    obtain ⟨x, a, ds, e1, e2, e3⟩ := h.1.2 kv hkv
    refine ⟨x, a, ds, e1, e.keep e2 fun l i z => ?_, e3⟩
    have := HO.lst.inj z
    cases ds with
    | nil => cases this
    | cons d r => cases this⟩, h.2⟩
theorem WordsOk.lock {H : Hp} {d : Addr} {kvs : List (Key × V)} {o : Obj} (h : WordsOk H kvs) (hd : H d = some (.dK kvs)) : WordsOk (upd H d (.frz o (.dK kvs))) kvs :=
  ⟨h.1.same fun a ys ha => (But.upd d H _).at ⟨kvs, .inl hd⟩ ha (fun _ z => by cases z) (fun _ _ z => by cases z), h.2⟩
theorem WordsOk.get {H : Hp} {kvs : List (Key × V)} {i : Nat} {k : Key} {v : V} (h : WordsOk H kvs) (e : kvs[i]? = some (k, v)) : ∃ (x : Str) (a : Addr) (ds : List Str), k = Sum.inr x ∧ v = .ref a ∧ H a = some (.lst (ds.map V.str)) ∧ (x, ds) ∈ words8 ∧ valV kvs (Sum.inr x) = some (.ref a) := by
  have m := List.mem_of_getElem? e
  obtain ⟨x, a, ds, e1, e2, e3⟩ := h.1.2 _ m
  cases e1
  exact ⟨x, a, ds, rfl, rfl, e2, e3, valV_mem h.2 m⟩
end Lp
namespace Lp
open PySem PySem.Spec PyProof.Rows L2 LamX NdefX
theorem upd_at {H : Hp} {a : Addr} {o : HO} (_ : H a = none) : upd H a o a = some o := upd_same
theorem is_at {H : Hp} {a : Addr} {o : HO} (h : H a = some o) : H a = some o := h
theorem dpE_ints {K : PySem.W.Frag} {H : Hp} {a : Addr} {ns : List Int} (h : H a = some (.lst (ns.map V.int))) : DpE K H (.ref a) (.list (ns.map PyData.int)) := fun _ e => .lst (SqL.of (e.intsH h)) (dpAll_ints ns)
theorem dpE_intsT {K : PySem.W.Frag} {H : Hp} {a : Addr} {ns : List Int} (h : H a = some (.tup (ns.map V.int))) : DpE K H (.ref a) (.tuple (ns.map PyData.int)) := fun _ e => .tup (SqT.of (e.tupH h)) (dpAll_ints ns)
theorem rep_ints (n : Nat) (i : Int) : List.replicate n (V.int i) = (List.replicate n i).map V.int := by simp
theorem shares_len {n : Nat} {ds : List PyData} (h : ds.length ≠ n) : sharesD n (.list ds) = false := by
  show (decide (ds.length = n) && _) = false
  rw [decide_eq_false h, Bool.false_and]
theorem shares_bad {n : Nat} {ds : List PyData} {d : PyData} (m : d ∈ ds) (h : withinD 0 1000000000000000000 d = false) : sharesD n (.list ds) = false := by
  have : ds.all (withinD 0 1000000000000000000) = false := by
    rw [List.all_eq_false]
    exact ⟨d, m, by rw [h]; decide⟩
  show (_ && ds.all (withinD 0 1000000000000000000)) = false
  rw [this, Bool.and_false]
theorem shares_rep {n : Nat} : sharesD n (.list ((List.replicate n (0 : Int)).map PyData.int)) = true := by
  show (decide (((List.replicate n (0 : Int)).map PyData.int).length = n) && ((List.replicate n (0 : Int)).map PyData.int).all (withinD 0 1000000000000000000)) = true
  rw [decide_eq_true (by simp), Bool.true_and, List.all_eq_true]
  intro d hd
  obtain ⟨i, hi, rfl⟩ := List.mem_map.mp hd
  rw [List.eq_of_mem_replicate hi]
  decide
theorem strs_flat (ds : List Str) : (ds.map V.str).all flatV = true := List.all_eq_true.mpr fun v hv => by
  obtain ⟨s, _, rfl⟩ := List.mem_map.mp hv
  rfl
theorem words_in {x : Str} {ds : List Str} (h : (x, ds) ∈ words8) : inV (.str "NoShares") (ds.map V.str) = ds.contains "NoShares" := by
  simp only [words8, List.mem_cons, Prod.mk.injEq, List.not_mem_nil, or_false] at h
  rcases h with ⟨rfl, rfl⟩ | ⟨rfl, rfl⟩ | ⟨rfl, rfl⟩ | ⟨rfl, rfl⟩ | ⟨rfl, rfl⟩ | ⟨rfl, rfl⟩ | ⟨rfl, rfl⟩ | ⟨rfl, rfl⟩ <;> decide +kernel
theorem words_not {x : Str} (h : inV (.str x) [.str "dishes", .str "least"] = false) : x ≠ "dishes" ∧ x ≠ "least" :=
  ⟨fun e => by subst e; exact absurd h (by decide +kernel), fun e => by subst e; exact absurd h (by decide +kernel)⟩
theorem words_due {x : Str} {ds : List Str} (h : (x, ds) ∈ words8) : PyData.strOk (dueOf ds) = true := by
  simp only [words8, List.mem_cons, Prod.mk.injEq, List.not_mem_nil, or_false] at h
  rcases h with ⟨rfl, rfl⟩ | ⟨rfl, rfl⟩ | ⟨rfl, rfl⟩ | ⟨rfl, rfl⟩ | ⟨rfl, rfl⟩ | ⟨rfl, rfl⟩ | ⟨rfl, rfl⟩ | ⟨rfl, rfl⟩ <;> decide +kernel
theorem ite_is {c : Bool} {b : Bool} {A B : Prop} (h : c = b) (q : if b = true then A else B) : if c = true then A else B := by rw [h]; exact q
theorem g_mk {i : Nat} {v : V} {σ σ' : L2.St} {H : Hp} {k : L2.St → Hp → Prop} (h : σ.set i (some v) = σ') (q : k σ' H) : gName i v σ H k := by subst h; exact q
theorem within_int {lo hi i : Int} (h1 : lo ≤ i) (h2 : i ≤ hi) : withinD lo hi (.int i) = true := by
  show (decide (lo ≤ i) && decide (i ≤ hi)) = true
  rw [decide_eq_true h1, decide_eq_true h2]
  rfl
theorem strs_no {ds : List Str} (l : Addr) (i : Int) : ds.map V.str ≠ [.ref l, .int i] := fun z => by
  cases ds with
  | nil => cases z
  | cons d r => cases z
theorem cut_list1 {K : PySem.W.Frag} {H : Hp} {Q : VK} {a : Addr} {xs : List V} (h : SqL K H a xs) (q : ∀ (r : Addr) (H' : Hp), Same H H' → H' r = some (.lst (xs.take 1)) → Q (.ref r) H') : rSlL K (.ref a) none (some 1) H Q :=
  cut_list h fun r H' s hr => q r H' s (by rw [hr]; exact congrArg (fun x => some (HO.lst x)) (cut_take xs 1))
/-- xs[:1] or ["NoSeat"] -/
theorem due_mk {K : PySem.W.Frag} {σ : L2.St} {H : Hp} {Q : VK} {ds : List Str} {r : Addr} (h : H r = some (.lst ((ds.map V.str).take 1))) (q : ∀ (r : Addr) (H' : Hp), Same H H' → H' r = some (.lst [.str (dueOf ds)]) → Q (.ref r) H') :
    ∃ k, TruV K (.ref r) H k ∧ if k = true then Q (.ref r) H else tLst (tCons (tC (.str "NoSeat")) tNil) σ H Q := by
  refine ⟨!((ds.map V.str).take 1).isEmpty, .inl ⟨_, SqL.of h, rfl⟩, ?_⟩
  cases ds with
  | nil => exact iteF ⟨by show 1 ≤ sizeLine; decide, fun p hp => q p _ (same_upd hp) upd_same⟩
  | cons d ds => exact iteT (q r H (Same.refl H) h)
theorem seq_asg {te : TE} {g : TG} {C : TS} {D : Ends} {σ : L2.St} {H : Hp} (h : te σ H fun x H1 => g x σ H1 ({ D with nx := C D } : Ends).nx) : tSeq (tAsg te g) C D σ H := h
theorem arg_mk {te : TE} {t : TA} {σ : L2.St} {H : Hp} {k : List V → Hp → Prop} (h : te σ H fun x H1 => t σ H1 fun xs H2 => k (x :: xs) H2) : tCons te t σ H k := h
section
variable {P : Program} {w : World} {K : PySem.W.Frag} {mg : Str → Option Value} {base : Heap} {N : Errs}
theorem sc_law : FnScope ["script", "words", "bag", "table", "dish", "many", "bad", "odd", "lists", "rows", "none", "word", "third", "worse", "good", "seat", "due"] ["script"] (defScope s_law) := ⟨rfl, rfl, rfl, by decide +kernel, rfl, by decide +kernel, by decide +kernel⟩
theorem ok_law {T : List NTab} {f : Addr} {fd : FuncData} (F : L2.Fun K "law" "law" s_law f fd) (B : Bls mg) (c_law_bags : Cal P w K mg base 3 "_law_bags" (spBags K)) (c_law_take : Cal P w K mg base 1 "_law_take" (spTake K)) (c_law_table : Cal P w K mg base 3 "_law_table" (spLawTable K))
    (c_law_kin_of : Cal P w K mg base 13 "_law_kin_of" (spKin K T N)) (c_law_pairs_refused : Cal P w K mg base 8 "_law_pairs_refused" (spPairs K T)) : FnOk P w K mg base L2.CX0 14 f fd ["script"] (spLawT K T) := by
  refine F.ok sc_law (fun vs H Q E h => ?_) (fun cdv A outer s H vs Q E hr h => ?_)
  · obtain ⟨a, ns, rfl, _⟩ := h
    rfl
  · obtain ⟨a, ns, rfl, hs, hl, hT, q⟩ := h
    refine ⟨_, (pss_cons (ps_set (i := 1) sc_law.nd rfl (Or.inl rfl) (pe_disp (pps_cons pe_str (pe_lst pa_nil) (pps_cons pe_str (pe_lst pa_nil) (pps_cons pe_str (pe_lst (pa_cons pe_str pa_nil)) (pps_cons pe_str (pe_lst pa_nil) pps_nil)))) (by rfl) (by rfl) (fun z => by cases z) (by decide)))
      (pss_cons (ps_expr (pe_bm PySem.F.plainAttrs_dict PySem.F.slot_dict_update PySem.F.type_dict_update mt_update (pv 1) (pa_cons (pe_disp (pps_cons pe_str (pe_lst (pa_cons pe_str pa_nil)) (pps_cons pe_str (pe_lst (pa_cons pe_str pa_nil)) pps_nil)) (by rfl) (by rfl) (fun z => by cases z) (by decide)) pa_nil)))
      (pss_cons (ps_expr (pe_bm PySem.F.plainAttrs_dict PySem.F.slot_dict_update PySem.F.type_dict_update mt_update (pv 1) (pa_cons (pe_disp (pps_cons pe_str (pe_lst (pa_cons pe_str (pa_cons pe_str pa_nil))) (pps_cons pe_str (pe_lst (pa_cons pe_str (pa_cons pe_str pa_nil))) pps_nil)) (by rfl) (by rfl) (fun z => by cases z) (by decide)) pa_nil)))
      (pss_cons (ps_for PassesOwn.never rfl (pi_list (pe_g c_law_bags hr (pa_cons (pv 0) (pa_cons pe_int pa_nil)))) (pg_name (i := 2) sc_law.nd rfl (Or.inl rfl))
      (pss_cons (ps_par (i := 3) (j := 4) (by rfl) sc_law.nd rfl rfl (by decide) rfl rfl (pa_cons (pe_g c_law_table hr (pa_cons (pv 2) (pa_cons pe_int (pa_cons pe_int pa_nil)))) (pa_cons (pe_g c_law_take hr (pa_cons (pv 2) (pa_cons pe_int pa_nil))) pa_nil)) (by rfl))
      (pss_cons (ps_set (i := 5) sc_law.nd rfl (Or.inl rfl) (pe_len B (pv 3)))
      (pss_cons (ps_set (i := 6) sc_law.nd rfl (Or.inl rfl) (pe_ix ix_list (pe_lst (pa_cons pe_non (pa_cons (pe_tup pa_nil) (pa_cons (pe_lst (pa_cons (pe_tup (pa_cons pe_int (pa_cons pe_int pa_nil))) pa_nil)) (pa_cons (pe_tup (pa_cons (pe_tup (pa_cons pe_int (pa_cons (pe_un un_neg pe_int) pa_nil))) pa_nil)) (pa_cons (pe_tup (pa_cons (pe_tup (pa_cons pe_bl (pa_cons pe_int pa_nil))) pa_nil)) (pa_cons (pe_op op_repT (pe_tup (pa_cons (pe_tup (pa_cons pe_int (pa_cons pe_int pa_nil))) pa_nil)) pe_int) pa_nil))))))) (pe_g c_law_take hr (pa_cons (pv 2) (pa_cons pe_int pa_nil))) (fun _ _ => rfl)))
      (pss_cons (ps_set (i := 7) sc_law.nd rfl (Or.inl rfl) (pe_ix ix_list (pe_lst (pa_cons pe_non (pa_cons pe_bl (pa_cons (pe_un un_neg pe_int) (pa_cons (pe_op op_add (pe_op op_pow pe_int pe_int) pe_int) (pa_cons pe_str (pa_cons (pe_tup (pa_cons pe_int pa_nil)) pa_nil))))))) (pe_g c_law_take hr (pa_cons (pv 2) (pa_cons pe_int pa_nil))) (fun _ _ => rfl)))
      (pss_cons (ps_set (i := 8) sc_law.nd rfl (Or.inl rfl) (pe_lst (pa_cons pe_non (pa_cons (pe_lst pa_nil) (pa_cons (pe_op op_rep (pe_lst (pa_cons pe_int pa_nil)) (pe_op op_add (pv 5) pe_int)) pa_nil)))))
      (pss_cons (ps_set (i := 8) sc_law.nd rfl (Or.inl rfl) (pe_op op_cat (pv 8) (pe_lst (pa_cons (pe_op op_cat (pe_op op_rep (pe_lst (pa_cons pe_int pa_nil)) (pe_op op_sub (pv 5) pe_int)) (pe_lst (pa_cons (pe_un un_neg pe_int) pa_nil))) (pa_cons (pe_callTy call_tuple_of (by rfl) B.tuple (by decide +kernel) (pa_cons (pe_op op_rep (pe_lst (pa_cons pe_int pa_nil)) (pv 5)) pa_nil)) (pa_cons (pe_op op_cat (pe_op op_rep (pe_lst (pa_cons pe_int pa_nil)) (pe_op op_sub (pv 5) pe_int)) (pe_lst (pa_cons (pe_op op_add (pe_op op_pow pe_int pe_int) pe_int) pa_nil))) pa_nil))))))
      (pss_cons (ps_par (i := 9) (j := 10) (by rfl) sc_law.nd rfl rfl (by decide) rfl rfl (pa_cons (pe_ix ix_list (pv 8) (pe_g c_law_take hr (pa_cons (pv 2) (pa_cons pe_int pa_nil))) (fun _ _ => rfl)) (pa_cons (pe_ix ix_list (pe_lst (pa_cons pe_non (pa_cons pe_bl (pa_cons (pe_un un_neg pe_int) (pa_cons (pv 5) (pa_cons pe_str pa_nil)))))) (pe_g c_law_take hr (pa_cons (pv 2) (pa_cons pe_int pa_nil))) (fun _ _ => rfl)) pa_nil)) (by rfl))
      (pss_cons (ps_lock (ps_for PassesOwn.never rfl (pi_keys (pv 1)) (pg_name (i := 11) sc_law.nd rfl (Or.inl rfl))
      (pss_cons (ps_asg (pe_ifExp (pt_cmpR op_in_seq pe_str (pe_dget (hu_of hr) (pv 1) (pv 11) (fun _ _ => rfl)) (by rfl)) (pe_tup (pa_cons (pe_op op_rep (pe_lst (pa_cons pe_int pa_nil)) (pv 5)) (pa_cons (pv 9) pa_nil))) (pe_tup (pa_cons pe_int (pa_cons (pe_ix ix_list (pe_lst (pa_cons pe_int (pa_cons (pv 7) pa_nil))) (pe_g c_law_take hr (pa_cons (pv 2) (pa_cons pe_int pa_nil))) (fun _ _ => rfl)) pa_nil)))) (pg_tup (by rfl) (pgs_cons (pg_name (i := 12) sc_law.nd rfl (Or.inl rfl)) (pgs_cons (pg_name (i := 13) sc_law.nd rfl (Or.inl rfl)) pgs_nil))))
      (pss_cons (ps_par (i := 14) (j := 15) (by rfl) sc_law.nd rfl rfl (by decide) rfl rfl (pa_cons (pe_lst (pa_cons (pv 3) (pa_cons (pv 4) (pa_cons (pv 12) (pa_cons (pe_op op_sub (pv 5) pe_int) (pa_cons pe_int pa_nil)))))) (pa_cons (pe_op op_sub (pv 5) pe_int) pa_nil)) (by rfl))
      (pss_cons (ps_if (pt_cmpR (op_neD hr.units) (pe_g c_law_kin_of hr (pa_cons (pv 11) (pa_cons (pv 6) (pa_cons (pv 7) (pa_cons (pv 13) (pa_cons (pv 10) (pa_cons (pv 10) pa_nil))))))) (pe_lst (pa_cons pe_str (pa_cons pe_str pa_nil))) (nomark _))
      (pss_one (ps_ret pe_bl))
      pss_nil)
      (pss_cons (ps_if (pt_cmpR op_notIn_seq (pv 11) (pe_tup (pa_cons pe_str (pa_cons pe_str pa_nil))) (by rfl))
      (pss_one (ps_if (pt_cmpR (op_neD hr.units) (pe_g c_law_kin_of hr (pa_cons (pv 11) (pa_cons (pv 3) (pa_cons (pv 7) (pa_cons (pv 13) (pa_cons (pv 10) (pa_cons (pv 10) pa_nil))))))) (pe_lst (pa_cons pe_str (pa_cons pe_str pa_nil))) (nomark _))
      (pss_one (ps_ret pe_bl))
      pss_nil))
      pss_nil)
      (pss_cons (ps_for PassesOwn.never rfl (pi_list (pe_orT (pe_slice sl_list (pe_dget (hu_of hr) (pv 1) (pv 11) (fun _ _ => rfl)) po_none (po_some pe_int)) (pe_one (pe_lst (pa_cons pe_str pa_nil))))) (pg_name (i := 16) sc_law.nd rfl (Or.inl rfl))
      (pss_one (ps_if (pt_cmpR (op_neD hr.units) (pe_g c_law_kin_of hr (pa_cons (pv 11) (pa_cons (pv 3) (pa_cons (pv 4) (pa_cons (pv 13) (pa_cons (pv 10) (pa_cons (pv 10) pa_nil))))))) (pe_lst (pa_cons (pv 16) (pa_cons pe_str pa_nil))) (nomark _))
      (pss_one (ps_ret pe_bl))
      pss_nil)))
      (pss_cons (ps_if (pt_cmpR (op_neD hr.units) (pe_g c_law_kin_of hr (pa_cons (pv 11) (pa_cons (pv 3) (pa_cons (pv 4) (pa_cons (pv 12) (pa_cons (pv 10) (pa_cons (pv 10) pa_nil))))))) (pe_lst (pa_cons pe_str (pa_cons pe_str pa_nil))) (nomark _))
      (pss_one (ps_ret pe_bl))
      pss_nil)
      (pss_cons (ps_if (pt_cmpR (op_neD hr.units) (pe_g c_law_kin_of hr (pa_cons (pv 11) (pa_cons (pv 3) (pa_cons (pv 4) (pa_cons (pv 12) (pa_cons (pv 15) (pa_cons (pv 10) pa_nil))))))) (pe_lst (pa_cons pe_str (pa_cons pe_str pa_nil))) (nomark _))
      (pss_one (ps_ret pe_bl))
      pss_nil)
      (pss_one (ps_if (pt_cmpR (op_neD hr.units) (pe_g c_law_kin_of hr (pa_cons (pv 11) (pa_cons (pe_ix ix_list (pv 14) pe_int (fun _ _ => rfl)) (pa_cons (pe_ix ix_list (pv 14) pe_int (fun _ _ => rfl)) (pa_cons (pe_ix ix_list (pv 14) pe_int (fun _ _ => rfl)) (pa_cons (pe_ix ix_list (pv 14) pe_int (fun _ _ => rfl)) (pa_cons (pe_ix ix_list (pv 14) pe_int (fun _ _ => rfl)) pa_nil))))))) (pe_lst pa_nil) (nomark _))
      (pss_one (ps_ret pe_bl))
      pss_nil)))))))))))
      (pss_one (ps_if (pt_not (pt_val (pe_g c_law_pairs_refused hr (pa_cons (pv 2) pa_nil))))
      (pss_one (ps_ret pe_bl))
      pss_nil)))))))))))
      (pss_one (ps_ret pe_bl)))))), ?_⟩
    -- words
    refine seq_asg (disp_strs [(("shares", []), tLst tNil), (("left", []), tLst tNil), (("taker", ["NoNumber"]), tLst (tCons (tC (.str "NoNumber")) tNil)), (("gains", []), tLst tNil)] (fun it hit => ?_) (by decide) (by decide +kernel) fun dd H1 kvs1 s1 nd1 hd1 hh1 => ?_)
    · simp only [List.mem_cons, List.not_mem_nil, or_false] at hit
      rcases hit with rfl | rfl | rfl | rfl <;> (dsimp only; exact makes_lst (fun _ _ q => q) (by decide))
    refine nx_mk (renorm (σ' := [some (.ref a), some (.ref dd), none, none, none, none, none, none, none, none, none, none, none, none, none, none, none]) rfl ?_)
    refine ⟨_, rfl, .inr (.inr (.inl ⟨rfl, .inl ⟨_, hd1⟩⟩)), ?_⟩
    refine arg_mk (disp_strs [(("dishes", ["NoShares"]), tLst (tCons (tC (.str "NoShares")) tNil)), (("least", ["NoShares"]), tLst (tCons (tC (.str "NoShares")) tNil))] (fun it hit => ?_) (by decide) (by decide +kernel) fun d2 H2 kvs2 s2 nd2 hd2 hh2 => ?_)
    · simp only [List.mem_cons, List.not_mem_nil, or_false] at hit
      rcases hit with rfl | rfl <;> (dsimp only; exact makes_lst (fun _ _ q => q) (by decide))
    refine ⟨dd, d2, kvs1, kvs2, rfl, rfl, (fun z : dd = d2 => by rw [← z, hd1] at nd2; cases nd2), s2 _ _ hd1, hd2, ?_, ?_⟩
    · rw [hh1.len, hh2.len]
      show 4 + 2 ≤ sizeLine
      decide
    refine nx_mk (renormG (σ' := [some (.ref a), some (.ref dd), none, none, none, none, none, none, none, none, none, none, none, none, none, none, none]) rfl fun H3 eH3 => ?_)
    obtain ⟨s3, hd3, hh3⟩ := upd_dict (q := d2) nd1 s1 s2 hd1 hh1 hh2 (by decide +kernel) eH3
    clear eH3 hd1 hh1 hd2 hh2 s1 s2
    refine ⟨_, rfl, .inr (.inr (.inl ⟨rfl, .inl ⟨_, hd3⟩⟩)), ?_⟩
    refine arg_mk (disp_strs [(("courtesies", ["NoShares", "NoSeat"]), tLst (tCons (tC (.str "NoShares")) (tCons (tC (.str "NoSeat")) tNil))), (("enoughs", ["NoShares", "NoSeat"]), tLst (tCons (tC (.str "NoShares")) (tCons (tC (.str "NoSeat")) tNil)))] (fun it hit => ?_) (by decide) (by decide +kernel) fun d4 H4 kvs4 s4 nd4 hd4 hh4 => ?_)
    · simp only [List.mem_cons, List.not_mem_nil, or_false] at hit
      rcases hit with rfl | rfl <;> (dsimp only; exact makes_lst (fun _ _ q => q) (by decide))
    refine ⟨dd, d4, _, kvs4, rfl, rfl, (fun z : dd = d4 => by rw [← z, hd3] at nd4; cases nd4), s4 _ _ hd3, hd4, ?_, ?_⟩
    · rw [hh3.len, hh4.len]
      show 6 + 2 ≤ sizeLine
      decide
    refine nx_mk (renormG (σ' := [some (.ref a), some (.ref dd), none, none, none, none, none, none, none, none, none, none, none, none, none, none, none]) rfl fun H5 eH5 => ?_)
    obtain ⟨s5, hd5, hh5⟩ := upd_dict (q := d4) nd1 s3 s4 hd3 hh3 hh4 (by decide +kernel) eH5
    have wk5 := WordsOk.of hh5
    generalize (kvs1 ++ kvs2 ++ kvs4) = kvs at hd5 wk5
    clear eH5 hd3 hh3 hd4 hh4 hh5 s3 s4 nd2 nd4
    -- bags
    refine ⟨_, rfl, a, ns, 6, rfl, (Same.evn s5).sql hs, by decide, by decide, fun l bs H6 s6 nl hbs hba => ⟨l, rfl, ⟨_, SqL.of hbs⟩, ?_⟩⟩
    have hd6 := s6 _ _ hd5
    have wk6 := wk5.evw (Same.evw s6)
    refine for_list (K := K) (a := l) (xs := bs.map V.ref) (fun j σ H' => ∃ (v2 v3 v4 v5 v6 v7 v8 v9 v10 v11 v12 v13 v14 v15 v16 : Option V), σ = [some (.ref a), some (.ref dd), v2, v3, v4, v5, v6, v7, v8, v9, v10, v11, v12, v13, v14, v15, v16] ∧ Evw H6 H' ∧ TabsN T H') ⟨none, none, none, none, none, none, none, none, none, none, none, none, none, none, none, rfl, Evw.refl _, Same.tabs (Same.trans s5 s6) hT⟩ ?_ ?_ ?_
    · rintro j σ H' hj ⟨v2, v3, v4, v5, v6, v7, v8, v9, v10, v11, v12, v13, v14, v15, v16, rfl, ev, hT'⟩
      exact SqL.of (ev.refsH hbs)
    · rintro j x σ H7 hx ⟨v2, v3, v4, v5, v6, v7, v8, v9, v10, v11, v12, v13, v14, v15, v16, rfl, ev, hT7⟩
      rw [List.getElem?_map] at hx
      obtain ⟨b, hb, rfl⟩ : ∃ b, bs[j]? = some b ∧ x = .ref b := by
        cases e : bs[j]? with
        | none => rw [e] at hx; cases hx
        | some b => rw [e] at hx; exact ⟨b, rfl, (Option.some.inj hx).symm⟩
      have Ba : BagAt K H7 b := (hba b (List.mem_of_getElem? hb)).evw ev
      have hd7 : H7 dd = some (.dK kvs) := ev.keep hd6 (fun _ _ z => by cases z)
      have wk7 := wk6.evw ev
      -- table, dish
      refine ⟨_, rfl, b, 8, 40, rfl, Ba, by decide, by decide, by decide, fun ta t H8 e8 tb8 t1 t8 lim => ?_⟩
      have ok : TabOk t := lim.ok (by decide) t1 (by omega)
      refine ⟨_, rfl, b, 90, rfl, Ba.evo e8, by decide, fun dsh H9 e9 d0 d1 => ⟨_, _, rfl, ?_⟩⟩
      have e79 := e8.trans e9
      have tb9 := tb8.evo e9
      refine nx_mk (renorm (σ' := [some (.ref a), some (.ref dd), some (.ref b), some (.ref ta), some (.int dsh), v5, v6, v7, v8, v9, v10, v11, v12, v13, v14, v15, v16]) rfl ?_)
      -- many
      obtain ⟨xs, hxs, hlx, hgx⟩ := tb9.open
      refine ⟨_, rfl, ta, xs, rfl, .inr hxs, ?_⟩
      refine nx_mk (renorm (σ' := [some (.ref a), some (.ref dd), some (.ref b), some (.ref ta), some (.int dsh), some (.int (t.length : Int)), v6, v7, v8, v9, v10, v11, v12, v13, v14, v15, v16]) (by rw [hlx]; rfl) ?_)
      clear hgx
      refine ⟨by show 0 ≤ sizeLine; decide, fun p1 hp1 => ?_⟩
      have gp1 := same_upd (o := .tup []) hp1
      have bp1 := upd_at (o := .tup []) hp1
      refine ⟨by show 2 ≤ sizeLine; decide, fun p2 hp2 => ?_⟩
      have gp2 := same_upd (o := .tup [.int 0, .int 0]) hp2
      have bp2 := upd_at (o := .tup [.int 0, .int 0]) hp2
      refine ⟨by show 1 ≤ sizeLine; decide, fun p3 hp3 => ?_⟩
      have gp3 := same_upd (o := .lst [.ref p2]) hp3
      have bp3 := upd_at (o := .lst [.ref p2]) hp3
      refine ⟨_, rfl, by show 2 ≤ sizeLine; decide, fun p4 hp4 => ?_⟩
      have gp4 := same_upd (o := .tup [.int 0, .int (-1)]) hp4
      have bp4 := upd_at (o := .tup [.int 0, .int (-1)]) hp4
      refine ⟨by show 1 ≤ sizeLine; decide, fun p5 hp5 => ?_⟩
      have gp5 := same_upd (o := .tup [.ref p4]) hp5
      have bp5 := upd_at (o := .tup [.ref p4]) hp5
      refine ⟨by show 2 ≤ sizeLine; decide, fun p6 hp6 => ?_⟩
      have gp6 := same_upd (o := .tup [.bl true, .int 0]) hp6
      have bp6 := upd_at (o := .tup [.bl true, .int 0]) hp6
      refine ⟨by show 1 ≤ sizeLine; decide, fun p7 hp7 => ?_⟩
      have gp7 := same_upd (o := .tup [.ref p6]) hp7
      have bp7 := upd_at (o := .tup [.ref p6]) hp7
      refine ⟨by show 2 ≤ sizeLine; decide, fun p8 hp8 => ?_⟩
      have gp8 := same_upd (o := .tup [.int 0, .int 0]) hp8
      have bp8 := upd_at (o := .tup [.int 0, .int 0]) hp8
      refine ⟨by show 1 ≤ sizeLine; decide, fun p9 hp9 => ?_⟩
      have gp9 := same_upd (o := .tup [.ref p8]) hp9
      have bp9 := upd_at (o := .tup [.ref p8]) hp9
      refine ⟨p9, 9, _, rfl, rfl, SqT.of upd_same, by simp, by decide, by decide, by show 1 ≤ 1000; decide, fun p10 hp10 => ?_⟩
      have gp10 := same_upd (o := .tup [.ref p8, .ref p8, .ref p8, .ref p8, .ref p8, .ref p8, .ref p8, .ref p8, .ref p8]) hp10
      have bp10 := upd_at (o := .tup [.ref p8, .ref p8, .ref p8, .ref p8, .ref p8, .ref p8, .ref p8, .ref p8, .ref p8]) hp10
      refine ⟨by show 6 ≤ sizeLine; decide, fun p11 hp11 => ?_⟩
      have gp11 := same_upd (o := .lst [.non, .ref p1, .ref p3, .ref p5, .ref p7, .ref p10]) hp11
      have bp11 := upd_at (o := .lst [.non, .ref p1, .ref p3, .ref p5, .ref p7, .ref p10]) hp11
      have kp1 := is_at (a := p1) (o := .tup []) (gp11 _ _ (gp10 _ _ (gp9 _ _ (gp8 _ _ (gp7 _ _ (gp6 _ _ (gp5 _ _ (gp4 _ _ (gp3 _ _ (gp2 _ _ bp1))))))))))
      have kp2 := is_at (a := p2) (o := .tup [.int 0, .int 0]) (gp11 _ _ (gp10 _ _ (gp9 _ _ (gp8 _ _ (gp7 _ _ (gp6 _ _ (gp5 _ _ (gp4 _ _ (gp3 _ _ bp2)))))))))
      have kp3 := is_at (a := p3) (o := .lst [.ref p2]) (gp11 _ _ (gp10 _ _ (gp9 _ _ (gp8 _ _ (gp7 _ _ (gp6 _ _ (gp5 _ _ (gp4 _ _ bp3))))))))
      have kp4 := is_at (a := p4) (o := .tup [.int 0, .int (-1)]) (gp11 _ _ (gp10 _ _ (gp9 _ _ (gp8 _ _ (gp7 _ _ (gp6 _ _ (gp5 _ _ bp4)))))))
      have kp5 := is_at (a := p5) (o := .tup [.ref p4]) (gp11 _ _ (gp10 _ _ (gp9 _ _ (gp8 _ _ (gp7 _ _ (gp6 _ _ bp5))))))
      have kp6 := is_at (a := p6) (o := .tup [.bl true, .int 0]) (gp11 _ _ (gp10 _ _ (gp9 _ _ (gp8 _ _ (gp7 _ _ bp6)))))
      have kp7 := is_at (a := p7) (o := .tup [.ref p6]) (gp11 _ _ (gp10 _ _ (gp9 _ _ (gp8 _ _ bp7))))
      have kp8 := is_at (a := p8) (o := .tup [.int 0, .int 0]) (gp11 _ _ (gp10 _ _ (gp9 _ _ bp8)))
      have kp9 := is_at (a := p9) (o := .tup [.ref p8]) (gp11 _ _ (gp10 _ _ bp9))
      have kp10 := is_at (a := p10) (o := .tup [.ref p8, .ref p8, .ref p8, .ref p8, .ref p8, .ref p8, .ref p8, .ref p8, .ref p8]) (gp11 _ _ bp10)
      have kp11 := is_at (a := p11) (o := .lst [.non, .ref p1, .ref p3, .ref p5, .ref p7, .ref p10]) bp11
      have sB := (Same.trans (Same.trans (Same.trans (Same.trans (Same.trans (Same.trans (Same.trans (Same.trans (Same.trans (Same.trans gp1 gp2) gp3) gp4) gp5) gp6) gp7) gp8) gp9) gp10) gp11)
      have eB := e79.trans (Same.evo sB)
      refine ⟨_, rfl, b, 6, rfl, Ba.evo eB, by decide, fun z1 H10 e10 z10 z11 => ?_⟩
      have kL1 : H10 p11 = some (.lst [.non, .ref p1, .ref p3, .ref p5, .ref p7, .ref p10]) := e10.keep kp11 fun _ _ z => by have := HO.lst.inj z; cases this
      have zk1 : z1.toNat < ([.non, .ref p1, .ref p3, .ref p5, .ref p7, .ref p10] : List V).length := by show z1.toNat < 6; omega
      have bad : ∀ x ∈ ([.non, .ref p1, .ref p3, .ref p5, .ref p7, .ref p10] : List V), ∃ d, DpE K H10 x d ∧ tableD d = false := fun x hx => by
        simp only [List.mem_cons, List.not_mem_nil, or_false] at hx
        rcases hx with h | h | h | h | h | h <;> subst h
        · exact ⟨.none, fun _ _ => .non, rfl⟩
        · exact ⟨.tuple [], fun _ e => .tup (SqT.of (e.tupH (e10.tupH kp1))) .nil, rfl⟩
        · exact ⟨.list [.tuple [.int 0, .int 0]], fun _ e => .lst (SqL.of (e.refsH (ps := [p2]) (e10.refsH (ps := [p2]) kp3))) (.cons (.tup (SqT.of (e.tupH (e10.tupH kp2))) (.cons (.int 0) (.cons (.int 0) .nil))) .nil), rfl⟩
        · exact ⟨.tuple [.tuple [.int 0, .int (-1)]], fun _ e => .tup (SqT.of (e.tupH (e10.tupH kp5))) (.cons (.tup (SqT.of (e.tupH (e10.tupH kp4))) (.cons (.int 0) (.cons (.int (-1)) .nil))) .nil), by decide⟩
        · exact ⟨.tuple [.tuple [.bool true, .int 0]], fun _ e => .tup (SqT.of (e.tupH (e10.tupH kp7))) (.cons (.tup (SqT.of (e.tupH (e10.tupH kp6))) (.cons (.bl true) (.cons (.int 0) .nil))) .nil), by decide⟩
        · exact ⟨.tuple [.tuple [.int 0, .int 0], .tuple [.int 0, .int 0], .tuple [.int 0, .int 0], .tuple [.int 0, .int 0], .tuple [.int 0, .int 0], .tuple [.int 0, .int 0], .tuple [.int 0, .int 0], .tuple [.int 0, .int 0], .tuple [.int 0, .int 0]], fun _ e => .tup (SqT.of (e.tupH (e10.tupH kp10))) (.cons (.tup (SqT.of (e.tupH (e10.tupH kp8))) (.cons (.int 0) (.cons (.int 0) .nil))) (.cons (.tup (SqT.of (e.tupH (e10.tupH kp8))) (.cons (.int 0) (.cons (.int 0) .nil))) (.cons (.tup (SqT.of (e.tupH (e10.tupH kp8))) (.cons (.int 0) (.cons (.int 0) .nil))) (.cons (.tup (SqT.of (e.tupH (e10.tupH kp8))) (.cons (.int 0) (.cons (.int 0) .nil))) (.cons (.tup (SqT.of (e.tupH (e10.tupH kp8))) (.cons (.int 0) (.cons (.int 0) .nil))) (.cons (.tup (SqT.of (e.tupH (e10.tupH kp8))) (.cons (.int 0) (.cons (.int 0) .nil))) (.cons (.tup (SqT.of (e.tupH (e10.tupH kp8))) (.cons (.int 0) (.cons (.int 0) .nil))) (.cons (.tup (SqT.of (e.tupH (e10.tupH kp8))) (.cons (.int 0) (.cons (.int 0) .nil))) (.cons (.tup (SqT.of (e.tupH (e10.tupH kp8))) (.cons (.int 0) (.cons (.int 0) .nil))) .nil))))))))), by decide⟩
      refine ⟨p11, _, _, _, rfl, rfl, SqL.of kL1, at_of (j := z1.toNat) (by omega) (List.getElem?_eq_getElem zk1), ?_⟩
      have badd := bad _ (List.getElem_mem zk1)
      generalize ([.non, .ref p1, .ref p3, .ref p5, .ref p7, .ref p10] : List V)[z1.toNat] = bd at badd ⊢
      obtain ⟨bdD, hbd, tbd⟩ := badd
      refine nx_mk (renorm (σ' := [some (.ref a), some (.ref dd), some (.ref b), some (.ref ta), some (.int dsh), some (.int (t.length : Int)), some bd, v7, v8, v9, v10, v11, v12, v13, v14, v15, v16]) rfl ?_)
      have e710 := eB.trans e10
      have tb10 := (tb9.same sB).evo e10
      have hxs10 := e10.sqt (Same.sqt sB hxs)
      clear bad kp1 kp2 kp3 kp4 kp5 kp6 kp7 kp8 kp9 kp10 kp11
      refine ⟨_, rfl, _, _, rfl, rfl, ⟨by decide, by decide, by decide⟩, _, _, rfl, rfl, by show 1 ≤ sizeLine; decide, fun o1 ho1 => ?_⟩
      have go1 := same_upd (o := .tup [.int 1]) ho1
      have bo1 := upd_at (o := .tup [.int 1]) ho1
      refine ⟨by show 6 ≤ sizeLine; decide, fun o2 ho2 => ?_⟩
      have go2 := same_upd (o := .lst [.non, .bl true, .int (-1), .int (10 ^ (18 : Int).toNat + 1), .str "3", .ref o1]) ho2
      have bo2 := upd_at (o := .lst [.non, .bl true, .int (-1), .int (10 ^ (18 : Int).toNat + 1), .str "3", .ref o1]) ho2
      have ko1 := is_at (a := o1) (o := .tup [.int 1]) (go2 _ _ bo1)
      have ko2 := is_at (a := o2) (o := .lst [.non, .bl true, .int (-1), .int (10 ^ (18 : Int).toNat + 1), .str "3", .ref o1]) bo2
      have sO := (Same.trans go1 go2)
      have eO := e710.trans (Same.evo sO)
      refine ⟨_, rfl, b, 6, rfl, Ba.evo eO, by decide, fun z2 H11 e11 z20 z21 => ?_⟩
      have kL2 : H11 o2 = some (.lst [.non, .bl true, .int (-1), .int (10 ^ (18 : Int).toNat + 1), .str "3", .ref o1]) := e11.keep ko2 fun _ _ z => by have := HO.lst.inj z; cases this
      have zk2 : z2.toNat < ([.non, .bl true, .int (-1), .int (10 ^ (18 : Int).toNat + 1), .str "3", .ref o1] : List V).length := by show z2.toNat < 6; omega
      have odd : ∀ x ∈ ([.non, .bl true, .int (-1), .int (10 ^ (18 : Int).toNat + 1), .str "3", .ref o1] : List V), ∃ d, DpE K H11 x d ∧ withinD 0 1000000000000000000 d = false ∧ withinD 1 1000000000000000000 d = false := fun x hx => by
        simp only [List.mem_cons, List.not_mem_nil, or_false] at hx
        rcases hx with h | h | h | h | h | h <;> subst h
        · exact ⟨.none, fun _ _ => .non, rfl, rfl⟩
        · exact ⟨.bool true, fun _ _ => .bl true, rfl, rfl⟩
        · exact ⟨.int (-1), fun _ _ => .int _, by decide, by decide⟩
        · exact ⟨.int (10 ^ (18 : Int).toNat + 1), fun _ _ => .int _, by decide, by decide⟩
        · exact ⟨.str "3", fun _ _ => .str _, rfl, rfl⟩
        · exact ⟨.tuple [.int 1], fun _ e => .tup (SqT.of (e.tupH (e11.tupH ko1))) (.cons (.int 1) .nil), rfl, rfl⟩
      refine ⟨o2, _, _, _, rfl, rfl, SqL.of kL2, at_of (j := z2.toNat) (by omega) (List.getElem?_eq_getElem zk2), ?_⟩
      have oddd := odd _ (List.getElem_mem zk2)
      generalize ([.non, .bl true, .int (-1), .int (10 ^ (18 : Int).toNat + 1), .str "3", .ref o1] : List V)[z2.toNat] = od at oddd ⊢
      obtain ⟨odD, hod, tod0, tod1⟩ := oddd
      refine nx_mk (renorm (σ' := [some (.ref a), some (.ref dd), some (.ref b), some (.ref ta), some (.int dsh), some (.int (t.length : Int)), some bd, some od, v8, v9, v10, v11, v12, v13, v14, v15, v16]) rfl ?_)
      have e711 := eO.trans e11
      have e1011 := (Same.evo sO).trans e11
      have tb11 := tb10.evo e1011
      have hxs11 := e1011.sqt hxs10
      have hbd11 := hbd.evw e1011.w
      clear odd ko1 ko2
      refine ⟨by show 0 ≤ sizeLine; decide, fun q1 hq1 => ?_⟩
      have gq1 := same_upd (o := .lst []) hq1
      have bq1 := upd_at (o := .lst []) hq1
      refine ⟨by show 1 ≤ sizeLine; decide, fun q2 hq2 => ?_⟩
      have gq2 := same_upd (o := .lst [.int 0]) hq2
      have bq2 := upd_at (o := .lst [.int 0]) hq2
      refine ⟨_, rfl, _, _, rfl, rfl, ?_⟩
      refine rep_list upd_same (by omega) (by omega) fun r1 H12 s12 hr1 => ?_
      refine ⟨by show 3 ≤ sizeLine; decide, fun q3 hq3 => ?_⟩
      have gq3 := same_upd (o := .lst [.non, .ref q1, .ref r1]) hq3
      have bq3 := upd_at (o := .lst [.non, .ref q1, .ref r1]) hq3
      have kq1 := is_at (a := q1) (o := .lst []) (gq3 _ _ (s12 _ _ (gq2 _ _ bq1)))
      have kq2 := is_at (a := q2) (o := .lst [.int 0]) (gq3 _ _ (s12 _ _ bq2))
      have kr1 := is_at (a := r1) (o := .lst ((List.replicate (t.length + 1) (0 : Int)).map V.int)) (gq3 _ _ (by rw [hr1, rep_ints]; rfl))
      have kq3 := is_at (a := q3) (o := .lst [.non, .ref q1, .ref r1]) bq3
      have sL := (Same.trans (Same.trans (Same.trans gq1 gq2) s12) gq3)
      refine nx_mk (renormG (σ' := [some (.ref a), some (.ref dd), some (.ref b), some (.ref ta), some (.int dsh), some (.int (t.length : Int)), some bd, some od, some (.ref q3), v9, v10, v11, v12, v13, v14, v15, v16]) rfl fun H13 eH13 => ?_)
      rw [← eH13] at kq1 kr1 kq3 sL
      clear eH13
      refine ⟨_, rfl, by show 1 ≤ sizeLine; decide, fun u1 hu1 => ?_⟩
      have gu1 := same_upd (o := .lst [.int 0]) hu1
      have bu1 := upd_at (o := .lst [.int 0]) hu1
      refine ⟨_, rfl, _, _, rfl, rfl, ?_⟩
      refine rep_list upd_same (by omega) (by omega) fun r2 H14 s14 hr2 => ?_
      refine ⟨_, rfl, by show 1 ≤ sizeLine; decide, fun u2 hu2 => ?_⟩
      have gu2 := same_upd (o := .lst [.int (-1)]) hu2
      have bu2 := upd_at (o := .lst [.int (-1)]) hu2
      refine cat_list (gu2 _ _ hr2) upd_same (by rw [List.length_replicate]; show _ + 1 ≤ 1000; omega) fun r3 H15 s15 hr3 => ?_
      refine ⟨by show 1 ≤ sizeLine; decide, fun u3 hu3 => ?_⟩
      have gu3 := same_upd (o := .lst [.int 0]) hu3
      have bu3 := upd_at (o := .lst [.int 0]) hu3
      refine ⟨_, rfl, ?_⟩
      refine rep_list upd_same (by omega) (by omega) fun r4 H16 s16 hr4 => ?_
      refine ⟨r4, _, rfl, .inl ⟨SqL.of hr4, fun u4 hu4 => ?_⟩⟩
      have gu4 := same_upd (o := .tup (List.replicate (t.length : Int).toNat (.int 0))) hu4
      refine ⟨by show 1 ≤ sizeLine; decide, fun u5 hu5 => ?_⟩
      have gu5 := same_upd (o := .lst [.int 0]) hu5
      have bu5 := upd_at (o := .lst [.int 0]) hu5
      refine ⟨_, rfl, _, _, rfl, rfl, ?_⟩
      refine rep_list upd_same (by omega) (by omega) fun r5 H17 s17 hr5 => ?_
      refine ⟨_, _, rfl, rfl, ⟨by decide, by decide, by decide⟩, _, _, rfl, rfl, by show 1 ≤ sizeLine; decide, fun u6 hu6 => ?_⟩
      have gu6 := same_upd (o := .lst [.int (10 ^ (18 : Int).toNat + 1)]) hu6
      have bu6 := upd_at (o := .lst [.int (10 ^ (18 : Int).toNat + 1)]) hu6
      refine cat_list (gu6 _ _ hr5) upd_same (by rw [List.length_replicate]; show _ + 1 ≤ 1000; omega) fun r6 H18 s18 hr6 => ?_
      refine ⟨by show 3 ≤ sizeLine; decide, fun u7 hu7 => ?_⟩
      have gu7 := same_upd (o := .lst [.ref r3, .ref u4, .ref r6]) hu7
      have bu7 := upd_at (o := .lst [.ref r3, .ref u4, .ref r6]) hu7
      refine cat_list (gu7 _ _ (s18 _ _ (gu6 _ _ (s17 _ _ (gu5 _ _ (gu4 _ _ (s16 _ _ (gu3 _ _ (s15 _ _ (gu2 _ _ (s14 _ _ (gu1 _ _ kq3)))))))))))) upd_same (by show 3 + 3 ≤ 1000; decide) fun r7 H19 s19 hr7 => ?_
      have jq1 := is_at (a := q1) (o := .lst []) (s19 _ _ (gu7 _ _ (s18 _ _ (gu6 _ _ (s17 _ _ (gu5 _ _ (gu4 _ _ (s16 _ _ (gu3 _ _ (s15 _ _ (gu2 _ _ (s14 _ _ (gu1 _ _ ((Same.refl H13) _ _ ((Same.refl H13) _ _ kq1)))))))))))))))
      have jr1 := is_at (a := r1) (o := .lst ((List.replicate (t.length + 1) (0 : Int)).map V.int)) (s19 _ _ (gu7 _ _ (s18 _ _ (gu6 _ _ (s17 _ _ (gu5 _ _ (gu4 _ _ (s16 _ _ (gu3 _ _ (s15 _ _ (gu2 _ _ (s14 _ _ (gu1 _ _ ((Same.refl H13) _ _ kr1))))))))))))))
      have jq3 := is_at (a := q3) (o := .lst [.non, .ref q1, .ref r1]) (s19 _ _ (gu7 _ _ (s18 _ _ (gu6 _ _ (s17 _ _ (gu5 _ _ (gu4 _ _ (s16 _ _ (gu3 _ _ (s15 _ _ (gu2 _ _ (s14 _ _ (gu1 _ _ kq3)))))))))))))
      have ku1 := is_at (a := u1) (o := .lst [.int 0]) (s19 _ _ (gu7 _ _ (s18 _ _ (gu6 _ _ (s17 _ _ (gu5 _ _ (gu4 _ _ (s16 _ _ (gu3 _ _ (s15 _ _ (gu2 _ _ (s14 _ _ bu1))))))))))))
      have ku2 := is_at (a := u2) (o := .lst [.int (-1)]) (s19 _ _ (gu7 _ _ (s18 _ _ (gu6 _ _ (s17 _ _ (gu5 _ _ (gu4 _ _ (s16 _ _ (gu3 _ _ (s15 _ _ bu2))))))))))
      have kr3 := is_at (a := r3) (o := .lst ((List.replicate ((t.length : Int) - 1).toNat (0 : Int) ++ [-1]).map V.int)) (s19 _ _ (gu7 _ _ (s18 _ _ (gu6 _ _ (s17 _ _ (gu5 _ _ (gu4 _ _ (s16 _ _ (gu3 _ _ (by rw [hr3, rep_ints, List.map_append]; rfl))))))))))
      have ku3 := is_at (a := u3) (o := .lst [.int 0]) (s19 _ _ (gu7 _ _ (s18 _ _ (gu6 _ _ (s17 _ _ (gu5 _ _ (gu4 _ _ (s16 _ _ bu3))))))))
      have ku4 := is_at (a := u4) (o := .tup ((List.replicate t.length (0 : Int)).map V.int)) (s19 _ _ (gu7 _ _ (s18 _ _ (gu6 _ _ (s17 _ _ (gu5 _ _ (by rw [upd_same, rep_ints]; rfl)))))))
      have ku5 := is_at (a := u5) (o := .lst [.int 0]) (s19 _ _ (gu7 _ _ (s18 _ _ (gu6 _ _ (s17 _ _ bu5)))))
      have ku6 := is_at (a := u6) (o := .lst [.int (10 ^ (18 : Int).toNat + 1)]) (s19 _ _ (gu7 _ _ (s18 _ _ bu6)))
      have kr6 := is_at (a := r6) (o := .lst ((List.replicate ((t.length : Int) - 1).toNat (0 : Int) ++ [10 ^ (18 : Int).toNat + 1]).map V.int)) (s19 _ _ (gu7 _ _ (by rw [hr6, rep_ints, List.map_append]; rfl)))
      have ku7 := is_at (a := u7) (o := .lst [.ref r3, .ref u4, .ref r6]) (s19 _ _ bu7)
      have kr7 := is_at (a := r7) (o := .lst [.non, .ref q1, .ref r1, .ref r3, .ref u4, .ref r6]) hr7
      have sR := Same.trans sL (Same.trans (Same.trans (Same.trans (Same.trans (Same.trans (Same.trans (Same.trans (Same.trans (Same.trans (Same.trans (Same.trans (Same.trans gu1 s14) gu2) s15) gu3) s16) gu4) gu5) s17) gu6) s18) gu7) s19)
      refine nx_mk (renorm (σ' := [some (.ref a), some (.ref dd), some (.ref b), some (.ref ta), some (.int dsh), some (.int (t.length : Int)), some bd, some od, some (.ref r7), v9, v10, v11, v12, v13, v14, v15, v16]) rfl ?_)
      have eR := e711.trans (Same.evo sR)
      refine ⟨_, rfl, _, rfl, b, 6, rfl, Ba.evo eR, by decide, fun z3 H20 e20 z30 z31 => ?_⟩
      have kL3 : H20 r7 = some (.lst [.non, .ref q1, .ref r1, .ref r3, .ref u4, .ref r6]) := e20.keep kr7 fun _ _ z => by have := HO.lst.inj z; cases this
      have zk3 : z3.toNat < ([.non, .ref q1, .ref r1, .ref r3, .ref u4, .ref r6] : List V).length := by show z3.toNat < 6; omega
      have row : ∀ x ∈ ([.non, .ref q1, .ref r1, .ref r3, .ref u4, .ref r6] : List V), ∃ d, DpE K H20 x d ∧ sharesD t.length d = false := fun x hx => by
        simp only [List.mem_cons, List.not_mem_nil, or_false] at hx
        rcases hx with h | h | h | h | h | h <;> subst h
        · exact ⟨.none, fun _ _ => .non, rfl⟩
        · exact ⟨_, dpE_ints (ns := []) (e20.intsH (ns := []) jq1), shares_len (by show 0 ≠ t.length; omega)⟩
        · exact ⟨_, dpE_ints (e20.intsH jr1), shares_len (by rw [List.length_map, List.length_replicate]; omega)⟩
        · exact ⟨_, dpE_ints (e20.intsH kr3), shares_bad (d := .int (-1)) (by rw [List.map_append]; exact List.mem_append_right _ (List.mem_cons_self)) (by decide)⟩
        · exact ⟨_, dpE_intsT (e20.tupH ku4), rfl⟩
        · exact ⟨_, dpE_ints (e20.intsH kr6), shares_bad (d := .int (10 ^ (18 : Int).toNat + 1)) (by rw [List.map_append]; exact List.mem_append_right _ (List.mem_cons_self)) (by decide)⟩
      refine ⟨r7, _, _, _, rfl, rfl, SqL.of kL3, at_of (j := z3.toNat) (by omega) (List.getElem?_eq_getElem zk3), ?_⟩
      have roww := row _ (List.getElem_mem zk3)
      generalize ([.non, .ref q1, .ref r1, .ref r3, .ref u4, .ref r6] : List V)[z3.toNat] = rows at roww ⊢
      obtain ⟨rowD, hrow, trow⟩ := roww
      have e1120 := (Same.evo sR).trans e20
      clear row
      refine ⟨_, rfl, _, rfl, by show 5 ≤ sizeLine; decide, fun v1 hv1 => ?_⟩
      have gv1 := same_upd (o := .lst [.non, .bl true, .int (-1), .int (t.length : Int), .str "0"]) hv1
      have bv1 := upd_at (o := .lst [.non, .bl true, .int (-1), .int (t.length : Int), .str "0"]) hv1
      have eN := (e711.trans e1120).trans (Same.evo gv1)
      refine ⟨_, rfl, b, 5, rfl, Ba.evo eN, by decide, fun z4 H21 e21 z40 z41 => ?_⟩
      have kL4 : H21 v1 = some (.lst [.non, .bl true, .int (-1), .int (t.length : Int), .str "0"]) := e21.keep upd_same fun _ _ z => by have := HO.lst.inj z; cases this
      have zk4 : z4.toNat < ([.non, .bl true, .int (-1), .int (t.length : Int), .str "0"] : List V).length := by show z4.toNat < 5; omega
      have non : ∀ x ∈ ([.non, .bl true, .int (-1), .int (t.length : Int), .str "0"] : List V), ∃ d, DpE K H21 x d ∧ withinD 0 ((t.length : Int) - 1) d = false := fun x hx => by
        simp only [List.mem_cons, List.not_mem_nil, or_false] at hx
        rcases hx with h | h | h | h | h <;> subst h
        · exact ⟨.none, fun _ _ => .non, rfl⟩
        · exact ⟨.bool true, fun _ _ => .bl true, rfl⟩
        · exact ⟨.int (-1), fun _ _ => .int _, rfl⟩
        · refine ⟨.int (t.length : Int), fun _ _ => .int _, ?_⟩
          show (decide ((0 : Int) ≤ (t.length : Int)) && decide ((t.length : Int) ≤ (t.length : Int) - 1)) = false
          rw [decide_eq_false (show ¬ (t.length : Int) ≤ (t.length : Int) - 1 by omega), Bool.and_false]
        · exact ⟨.str "0", fun _ _ => .str _, rfl⟩
      refine ⟨v1, _, _, _, rfl, rfl, SqL.of kL4, at_of (j := z4.toNat) (by omega) (List.getElem?_eq_getElem zk4), ⟨_, _, rfl, ?_⟩⟩
      have nonn := non _ (List.getElem_mem zk4)
      generalize ([.non, .bl true, .int (-1), .int (t.length : Int), .str "0"] : List V)[z4.toNat] = nn at nonn ⊢
      obtain ⟨nnD, hnn, tnn⟩ := nonn
      refine nx_mk (renorm (σ' := [some (.ref a), some (.ref dd), some (.ref b), some (.ref ta), some (.int dsh), some (.int (t.length : Int)), some bd, some od, some (.ref r7), some rows, some nn, v11, v12, v13, v14, v15, v16]) rfl ?_)
      have e2021 := (Same.evo gv1).trans e21
      have e1121 := e1120.trans e2021
      have e721 := e711.trans e1121
      have tb21 := tb11.evo e1121
      have hxs21 := e1121.sqt hxs11
      have hbd21 := hbd11.evw e1121.w
      have hod21 := hod.evw e1121.w
      have hrow21 := hrow.evw e2021.w
      have Ba21 := Ba.evo e721
      have hT21 := e721.tabs hT7
      have hd21 : H21 dd = some (.dK kvs) := e721.keep hd7 (fun _ _ z => by cases z)
      have wk21 := wk7.evw e721.w
      clear non
      -- for word in words
      refine seqP (fun σ' H' => (∃ (v11 v12 v13 v14 v15 v16 : Option V), σ' = [some (.ref a), some (.ref dd), some (.ref b), some (.ref ta), some (.int dsh), some (.int (t.length : Int)), some bd, some od, some (.ref r7), some rows, some nn, v11, v12, v13, v14, v15, v16]) ∧ Evw H21 H' ∧ TabsN T H') (fun D' k => ?_) (fun σ' H40 r40 => ?_)
      · refine ⟨dd, .dK kvs, hd21, trivial, fun od' => ?_⟩
        have bu := But.upd dd H21 (.frz od' (.dK kvs))
        have dc21 : Dct H21 dd := ⟨kvs, .inl hd21⟩
        have un : ∀ H', Evw (upd H21 dd (.frz od' (.dK kvs))) H' → Evw H21 (upd H' dd (.dK kvs)) := fun H' e => evw_unlock hd21 e
        have tbL := bu.table dc21 tb21
        have hxsL := bu.sqt dc21 hxs21
        have hbdL := hbd21.lock (o := od') hd21
        have hodL := hod21.lock (o := od') hd21
        have hrowL := hrow21.lock (o := od') hd21
        have hnnL := hnn.lock (o := od') hd21
        have BaL := bu.bag dc21 Ba21
        have hTL := bu.tabs dc21 hT21
        have wkL := wk21.lock (o := od') hd21
        have hdL : (upd H21 dd (.frz od' (.dK kvs))) dd = some (.frz od' (.dK kvs)) := upd_same
        generalize (upd H21 dd (.frz od' (.dK kvs))) = HL at un tbL hxsL hbdL hodL hrowL hnnL BaL hTL wkL hdL ⊢
        clear bu
        refine ⟨_, rfl, dd, od', rfl, .inl ⟨kvs, hdL, ?_⟩⟩
        have hdE : ∀ H', Evw HL H' → H' dd = some (.frz od' (.dK kvs)) := fun H' e => e.keep hdL (fun _ _ z => by cases z)
        refine for_it walk_keys (fun j σ H' => (∃ (v11 v12 v13 v14 v15 v16 : Option V), σ = [some (.ref a), some (.ref dd), some (.ref b), some (.ref ta), some (.int dsh), some (.int (t.length : Int)), some bd, some od, some (.ref r7), some rows, some nn, v11, v12, v13, v14, v15, v16]) ∧ Evw HL H' ∧ TabsN T H') ⟨⟨v11, v12, v13, v14, v15, v16, rfl⟩, Evw.refl _, hTL⟩ (fun j σ H' _ h => hdE H' h.2.1) ?_ ?_
        · rintro jj x σ H31 H31' hj ⟨⟨v11, v12, v13, v14, v15, v16, rfl⟩, evL, hT31⟩ ⟨rfl, kk, vv, hkk, rfl⟩
          obtain ⟨wd, aw, ds, rfl, rfl, haw, mem, hval⟩ := (wkL.evw evL).get hkk
          have hd31 := hdE _ evL
          have dget : DGet H31' dd (.str wd) (some (.ref aw)) := .inl ⟨kvs, Sum.inr wd, .inr ⟨od', hd31⟩, rfl, hval.symm⟩
          have Ba31 := BaL.evw evL
          refine g_mk (σ' := [some (.ref a), some (.ref dd), some (.ref b), some (.ref ta), some (.int dsh), some (.int (t.length : Int)), some bd, some od, some (.ref r7), some rows, some nn, some (.str wd), v12, v13, v14, v15, v16]) rfl ?_
          -- third, worse
          refine seqP (fun σ' H' => ∃ (tv wv : V), σ' = [some (.ref a), some (.ref dd), some (.ref b), some (.ref ta), some (.int dsh), some (.int (t.length : Int)), some bd, some od, some (.ref r7), some rows, some nn, some (.str wd), some tv, some wv, v14, v15, v16] ∧ Evw H31' H' ∧ TabsN T H' ∧ (ds.contains "NoShares" = true → (∃ r : Addr, tv = .ref r ∧ H' r = some (.lst ((List.replicate t.length (0 : Int)).map V.int))) ∧ wv = rows) ∧ (ds.contains "NoShares" = false → tv = .int 1 ∧ ∃ d, DpE K H' wv d ∧ withinD 1 1000000000000000000 d = false)) (fun D' k => ?_) (fun σ' H32 r32 => ?_)
          · refine ⟨_, rfl, _, rfl, dd, _, rfl, dget, ⟨aw, _, rfl, .inl (SqL.of haw), rfl, strs_flat ds, _, rfl, ite_is (words_in mem) ?_⟩⟩
            cases hc : ds.contains "NoShares" with
            | false =>
              refine iteF ⟨_, rfl, by show 2 ≤ sizeLine; decide, fun m1 hm1 => ?_⟩
              have gm1 := same_upd (o := .lst [.int 0, od]) hm1
              refine ⟨_, rfl, b, 2, rfl, Ba31.evw (Same.evw gm1), by decide, fun z H33 e33 z0 z1 => ?_⟩
              have km1 : H33 m1 = some (.lst [.int 0, od]) := e33.keep upd_same fun _ _ z => by have := HO.lst.inj z; cases this
              have zk : z.toNat < ([.int 0, od] : List V).length := by show z.toNat < 2; omega
              have e3133 := (Same.evw gm1).trans e33.w
              have wor : ∀ y ∈ ([.int 0, od] : List V), ∃ d, DpE K H33 y d ∧ withinD 1 1000000000000000000 d = false := fun y hy => by
                simp only [List.mem_cons, List.not_mem_nil, or_false] at hy
                rcases hy with h | h <;> subst h
                · exact ⟨.int 0, fun _ _ => .int 0, by decide⟩
                · exact ⟨odD, hodL.evw (evL.trans e3133), tod1⟩
              refine ⟨m1, _, _, _, rfl, rfl, SqL.of km1, at_of (j := z.toNat) (by omega) (List.getElem?_eq_getElem zk), ?_⟩
              have worr := wor _ (List.getElem_mem zk)
              generalize ([.int 0, od] : List V)[z.toNat] = wv at worr ⊢
              refine ⟨by show 2 ≤ sizeLine; decide, fun m2 hm2 => ?_⟩
              have gm2 := same_upd (o := .tup [.int 1, wv]) hm2
              refine ⟨m2, _, rfl, SqT.of upd_same, rfl, _, _, rfl, _, _, rfl, rfl, k _ _ ⟨.int 1, wv, rfl, e3133.trans (Same.evw gm2), Same.tabs gm2 (e33.tabs (Same.tabs gm1 hT31)), (fun z => by rw [hc] at z; cases z), fun _ => ⟨rfl, ?_⟩⟩⟩
              obtain ⟨d, h1, h2⟩ := worr
              exact ⟨d, h1.evw (Same.evw gm2), h2⟩
            | true =>
              refine iteT ⟨by show 1 ≤ sizeLine; decide, fun m1 hm1 => ⟨_, rfl, ?_⟩⟩
              have gm1 := same_upd (o := .lst [.int 0]) hm1
              refine rep_list upd_same (by omega) (by omega) fun r8 H33 s33 hr8 => ?_
              refine ⟨_, rfl, by show 2 ≤ sizeLine; decide, fun m2 hm2 => ?_⟩
              have gm2 := same_upd (o := .tup [.ref r8, rows]) hm2
              have s3 := Same.trans (Same.trans gm1 s33) gm2
              refine ⟨m2, _, rfl, SqT.of upd_same, rfl, _, _, rfl, _, _, rfl, rfl, k _ _ ⟨.ref r8, rows, rfl, Same.evw s3, Same.tabs s3 hT31, fun _ => ⟨⟨r8, rfl, gm2 _ _ (by rw [hr8, rep_ints]; rfl)⟩, rfl⟩, (fun z => by rw [hc] at z; cases z)⟩⟩
          obtain ⟨tv, wv, rfl, e3132, hT32, hyes, hno⟩ := r32
          -- good, seat
          refine ⟨_, rfl, _, rfl, _, rfl, _, rfl, _, _, rfl, rfl, by show 5 ≤ sizeLine; decide, fun gd hgd => ⟨_, rfl, _, _, rfl, rfl, _, _, rfl, ?_⟩⟩
          have en : (t.length : Int) - 1 = ((t.length - 1 : Nat) : Int) := by omega
          have ggd := same_upd (o := .lst [.ref ta, .int dsh, tv, .int ((t.length : Int) - 1), .int 0]) hgd
          have bgd := upd_at (o := .lst [.ref ta, .int dsh, tv, .int ((t.length : Int) - 1), .int 0]) hgd
          refine nx_mk (renormG (σ' := [some (.ref a), some (.ref dd), some (.ref b), some (.ref ta), some (.int dsh), some (.int (t.length : Int)), some bd, some od, some (.ref r7), some rows, some nn, some (.str wd), some tv, some wv, some (.ref gd), some (.int ((t.length : Int) - 1)), v16]) rfl fun H34 eH34 => ?_)
          rw [← eH34] at ggd bgd
          clear eH34
          have e34 : Evw H31' H34 := e3132.trans (Same.evw ggd)
          have eL34 := evL.trans e34
          have hT34 := Same.tabs ggd hT32
          have tb34 := tbL.evw eL34
          have hxs34 := eL34.sqt hxsL
          have n8 : xs.length ≤ 8 := by omega
          have W : WordDo K N H34 t.length (.ref ta) (.int dsh) (.int ((t.length : Int) - 1)) bd od nn tv wv wd ds := by
            refine word_do mem ⟨_, (hbdL.evw eL34).now, tbd⟩ ⟨_, tb34, tableD_ok ok⟩ ⟨_, (hodL.evw eL34).now, tod0⟩ ⟨_, .int dsh, within_int d0 (by omega)⟩ ⟨ta, xs, _, rfl, hxs34, (hnnL.evw eL34).now, by rw [hlx]; exact tnn⟩ ⟨ta, xs, _, rfl, hxs34, .int _, by rw [hlx]; exact within_int (by omega) (by omega)⟩ (fun z => ?_) (fun z => ?_)
            · obtain ⟨⟨r, rfl, hr'⟩, rfl⟩ := hyes z
              have hr34 := ggd _ _ hr'
              exact ⟨⟨r, _, rfl, SqL.of hr34, by simp, fun m hm => by rw [List.eq_of_mem_replicate hm]; decide⟩, ⟨ta, xs, _, rfl, hxs34, n8, dp_ints (SqL.of hr34), by rw [hlx]; exact shares_rep⟩, ⟨ta, xs, _, rfl, hxs34, n8, (hrowL.evw eL34).now, by rw [hlx]; exact trow⟩⟩
            · obtain ⟨rfl, d, h1, h2⟩ := hno z
              exact ⟨rfl, _, (h1.evw (Same.evw ggd)).now, h2⟩
          -- NoTable
          refine guardRS (fun H' => EvN H34 H' ∧ TabsN T H') (fun Q' k' => ?_) (fun H35 r35 => ?_)
          · obtain ⟨cs, ak, ref⟩ := W.c1
            refine ⟨_, rfl, _, rfl, _, rfl, _, rfl, _, rfl, _, rfl, wd, _, _, _, _, _, rfl, hT34, .inr ⟨cs, _, _, ak, ref, named_table N, fun r H' ev hT' hr => ?_⟩⟩
            refine ⟨by show 2 ≤ sizeLine; decide, fun l6 hl6 => ?_⟩
            have s10 := same_upd (o := .lst [.str "NoTable", .str "ValueError"]) hl6
            exact ne_strs (by decide +kernel) (by decide +kernel) (s10 _ _ hr) upd_same ⟨_, rfl, k' _ ⟨ev.trans (Same.evn s10), Same.tabs s10 hT'⟩⟩
          -- NoDish
          refine next_mk (seqP (fun σ' H' => σ' = [some (.ref a), some (.ref dd), some (.ref b), some (.ref ta), some (.int dsh), some (.int (t.length : Int)), some bd, some od, some (.ref r7), some rows, some nn, some (.str wd), some tv, some wv, some (.ref gd), some (.int ((t.length : Int) - 1)), v16] ∧ EvN H34 H' ∧ TabsN T H') (fun D2 k2 => ?_) (fun σ' H36 r36 => ?_))
          · refine ⟨_, rfl, by show 2 ≤ sizeLine; decide, fun l5 hl5 => ⟨l5, _, rfl, .inr (SqT.of upd_same), rfl, rfl, _, rfl, ?_⟩⟩
            have s5 := same_upd (o := .tup [.str "dishes", .str "least"]) hl5
            have e5 := r35.1.trans (Same.evn s5)
            have hT5 := Same.tabs s5 r35.2
            cases hv : inV (.str wd) [.str "dishes", .str "least"] with
            | true =>
              refine ite_is (b := false) rfl (iteF (next_mk (k2 _ _ ⟨rfl, e5, hT5⟩)))
            | false =>
              refine ite_is (b := true) rfl (iteT ?_)
              obtain ⟨n1, n2⟩ := words_not hv
              obtain ⟨cs, ak, ref⟩ := (W.evn e5).c2 n1 n2
              refine guardR (fun H' => EvN H34 H' ∧ TabsN T H') (fun Q' k'' => ?_) (fun H6 r6 => next_mk (k2 _ _ ⟨rfl, r6⟩))
              have k' : ∀ H', EvN (upd H35 l5 (.tup [.str "dishes", .str "least"])) H' ∧ TabsN T H' → Q' false H' := fun H' h => k'' H' ⟨e5.trans h.1, h.2⟩
              refine ⟨_, rfl, _, rfl, _, rfl, _, rfl, _, rfl, _, rfl, wd, _, _, _, _, _, rfl, hT5, .inr ⟨cs, _, _, ak, ref, named_dish N, fun r H' ev hT' hr => ?_⟩⟩
              refine ⟨by show 2 ≤ sizeLine; decide, fun l6 hl6 => ?_⟩
              have s10 := same_upd (o := .lst [.str "NoDish", .str "ValueError"]) hl6
              exact ne_strs (by decide +kernel) (by decide +kernel) (s10 _ _ hr) upd_same ⟨_, rfl, k' _ ⟨ev.trans (Same.evn s10), Same.tabs s10 hT'⟩⟩
          obtain ⟨rfl, r36⟩ := r36
          -- due
          refine seqP (fun σ' H' => (∃ v16, σ' = [some (.ref a), some (.ref dd), some (.ref b), some (.ref ta), some (.int dsh), some (.int (t.length : Int)), some bd, some od, some (.ref r7), some rows, some nn, some (.str wd), some tv, some wv, some (.ref gd), some (.int ((t.length : Int) - 1)), v16]) ∧ EvN H34 H' ∧ TabsN T H') (fun D2 k2 => ?_) (fun σ' H37 r37 => ?_)
          · have hd36 : H36 dd = some (.frz od' (.dK kvs)) := r36.1.1 _ _ (hdE _ eL34) (fun _ z => by cases z)
            have haw36 : H36 aw = some (.lst (ds.map V.str)) := r36.1.lst (e34.keep haw fun l i z => strs_no l i (HO.lst.inj z))
            have dget36 : DGet H36 dd (.str wd) (some (.ref aw)) := .inl ⟨kvs, Sum.inr wd, .inr ⟨od', hd36⟩, rfl, hval.symm⟩
            refine ⟨_, rfl, _, rfl, dd, _, rfl, dget36, _, rfl, cut_list1 (SqL.of haw36) fun rc H7 s7 hrc => ?_⟩
            refine due_mk (ds := ds) hrc fun rd H8 s8 hrd => ?_
            have s68 := Same.trans s7 s8
            have e8 := r36.1.trans (Same.evn s68)
            have hT8 := Same.tabs s68 r36.2
            refine ⟨rd, rfl, ⟨_, SqL.of hrd⟩, ?_⟩
            refine for_list (K := K) (a := rd) (xs := [.str (dueOf ds)]) (fun j σ H' => (∃ v16, σ = [some (.ref a), some (.ref dd), some (.ref b), some (.ref ta), some (.int dsh), some (.int (t.length : Int)), some bd, some od, some (.ref r7), some rows, some nn, some (.str wd), some tv, some wv, some (.ref gd), some (.int ((t.length : Int) - 1)), v16]) ∧ EvN H8 H' ∧ TabsN T H') ⟨⟨v16, rfl⟩, EvN.refl _, hT8⟩ (fun j σ H' _ h => h.2.1.sql (SqL.of hrd)) ?_ ?_
            · rintro i9 x σ H9 hx9 ⟨⟨v16, rfl⟩, e9, hT9⟩
              obtain rfl : x = .str (dueOf ds) := by
                have := List.mem_of_getElem? hx9
                exact List.mem_singleton.mp this
              refine g_mk (σ' := [some (.ref a), some (.ref dd), some (.ref b), some (.ref ta), some (.int dsh), some (.int (t.length : Int)), some bd, some od, some (.ref r7), some rows, some nn, some (.str wd), some tv, some wv, some (.ref gd), some (.int ((t.length : Int) - 1)), some (.str (dueOf ds))]) rfl ?_
              obtain ⟨cs, C, ak, ref, named⟩ := (W.evn (e8.trans e9)).c3
              refine guardR (fun H' => EvN H8 H' ∧ TabsN T H') (fun Q' k'' => ?_) (fun H10 r10 => next_mk ⟨⟨_, rfl⟩, r10⟩)
              have k' : ∀ H', EvN H9 H' ∧ TabsN T H' → Q' false H' := fun H' h => k'' H' ⟨e9.trans h.1, h.2⟩
              refine ⟨_, rfl, _, rfl, _, rfl, _, rfl, _, rfl, _, rfl, wd, _, _, _, _, _, rfl, hT9, .inr ⟨cs, _, _, ak, ref, named, fun r H' ev hT' hr => ?_⟩⟩
              refine ⟨_, rfl, by show 2 ≤ sizeLine; decide, fun l6 hl6 => ?_⟩
              have s10 := same_upd (o := .lst [.str (dueOf ds), .str "ValueError"]) hl6
              exact ne_strs (words_due mem) (by decide +kernel) (s10 _ _ hr) upd_same ⟨_, rfl, k' _ ⟨ev.trans (Same.evn s10), Same.tabs s10 hT'⟩⟩
            · rintro σ H9 ⟨⟨v16, rfl⟩, e9, hT9⟩
              exact k2 _ _ ⟨⟨v16, rfl⟩, e8.trans e9, hT9⟩
          obtain ⟨⟨v16, rfl⟩, r37⟩ := r37
          refine (guardRS (fun H' => EvN H34 H' ∧ TabsN T H') (fun Q' k'' => ?_) (fun H38 r38 => ?_))
          · obtain ⟨cs, ak, ref⟩ := (W.evn r37.1).c4
            have k' : ∀ H', EvN H37 H' ∧ TabsN T H' → Q' false H' := fun H' h => k'' H' ⟨r37.1.trans h.1, h.2⟩
            refine ⟨_, rfl, _, rfl, _, rfl, _, rfl, _, rfl, _, rfl, wd, _, _, _, _, _, rfl, r37.2, .inr ⟨cs, _, _, ak, ref, named_seat N, fun r H' ev hT' hr => ?_⟩⟩
            refine ⟨by show 2 ≤ sizeLine; decide, fun l6 hl6 => ?_⟩
            have s10 := same_upd (o := .lst [.str "NoSeat", .str "ValueError"]) hl6
            exact ne_strs (by decide +kernel) (by decide +kernel) (s10 _ _ hr) upd_same ⟨_, rfl, k' _ ⟨ev.trans (Same.evn s10), Same.tabs s10 hT'⟩⟩
          refine next_mk (guardRS (fun H' => EvN H34 H' ∧ TabsN T H') (fun Q' k'' => ?_) (fun H39 r39 => ?_))
          · obtain ⟨cs, ak, ref⟩ := (W.evn r38.1).c5
            have k' : ∀ H', EvN H38 H' ∧ TabsN T H' → Q' false H' := fun H' h => k'' H' ⟨r38.1.trans h.1, h.2⟩
            refine ⟨_, rfl, _, rfl, _, rfl, _, rfl, _, rfl, _, rfl, wd, _, _, _, _, _, rfl, r38.2, .inr ⟨cs, _, _, ak, ref, named_seat N, fun r H' ev hT' hr => ?_⟩⟩
            refine ⟨by show 2 ≤ sizeLine; decide, fun l6 hl6 => ?_⟩
            have s10 := same_upd (o := .lst [.str "NoSeat", .str "ValueError"]) hl6
            exact ne_strs (by decide +kernel) (by decide +kernel) (s10 _ _ hr) upd_same ⟨_, rfl, k' _ ⟨ev.trans (Same.evn s10), Same.tabs s10 hT'⟩⟩
          have bg := r39.1.lst bgd
          refine next_mk (guardR (fun H' => EvN H34 H' ∧ TabsN T H') (fun Q' k' => ?_) (fun H41 r41 => next_mk ⟨⟨_, _, _, _, _, _, rfl⟩, eL34.trans r41.1.w, r41.2⟩))
          refine ⟨_, rfl, _, rfl, gd, _, _, _, rfl, rfl, SqL.of bg, at_of (j := 0) rfl rfl, _, rfl, gd, _, _, _, rfl, rfl, SqL.of bg, at_of (j := 1) rfl rfl, _, rfl, gd, _, _, _, rfl, rfl, SqL.of bg, at_of (j := 2) rfl rfl, _, rfl, gd, _, _, _, rfl, rfl, SqL.of bg, at_of (j := 3) rfl rfl, _, rfl, gd, _, _, _, rfl, rfl, SqL.of bg, at_of (j := 4) rfl rfl, wd, _, _, _, _, _, rfl, r39.2, .inl ⟨ta, t, dsh, t.length - 1, 0, rfl, rfl, by rw [en], rfl, tb34.evn r39.1, ok, d0, by omega, by omega, by omega, W.c6.evn r39.1, fun r H' ev hT' hr => ?_⟩⟩
          refine ⟨by show 0 ≤ sizeLine; decide, fun l6 hl6 => ?_⟩
          have s10 := same_upd (o := .lst []) hl6
          refine ne_same (ns := []) (SqL.of (s10 _ _ hr)) (SqL.of upd_same) ⟨_, rfl, k' _ ⟨r39.1.trans (ev.trans (Same.evn s10)), Same.tabs s10 hT'⟩⟩
        · rintro σ H32 ⟨hσ, evL, hT32⟩
          exact ⟨hdE _ evL, k _ _ ⟨hσ, un _ evL, (But.upd dd H32 (.dK kvs)).tabs ⟨kvs, .inr ⟨od', hdE _ evL⟩⟩ hT32⟩⟩
      obtain ⟨⟨v11, v12, v13, v14, v15, v16, rfl⟩, e2140, hT40⟩ := r40
      have Ba40 := Ba21.evw e2140
      refine guardR (fun H' => Evw H40 H' ∧ TabsN T H') (fun Q' k' => ?_) (fun H41 r41 => next_mk ⟨_, _, _, _, _, _, _, _, _, _, _, _, _, _, _, rfl, ev.trans (e721.w.trans (e2140.trans r41.1)), r41.2⟩)
      exact ⟨_, rfl, b, rfl, Ba40, hT40, fun H' e' hT' => ⟨_, rfl, k' _ ⟨e', hT'⟩⟩⟩
    · rintro σ H7 ⟨v2, v3, v4, v5, v6, v7, v8, v9, v10, v11, v12, v13, v14, v15, v16, rfl, ev, hT'⟩
      exact q _
end
end Lp
namespace Lp
open PySem PySem.Spec PyProof.Rows L2
section
variable {P : Program} {w : World} {K : PySem.W.Frag} {mg : Str → Option Value} {base : Heap} {C : Addr} {x m qual : Str} {st : Stmt} {k n : Nat} {ps : List Str} {sp : Sp}
theorem DefIn.cal (D : DefIn K mg x st) (h : ∀ f fd, L2.Fun K x x st f fd → FnOk P w K mg base L2.CX0 k f fd ps sp)
    (hb : ∀ (kV doc pm : Value) (an : Option Addr) (cdv ct : Value) (us : List Value), us.length = ps.length → bindArgs (PySem.W.fnOf x x (defArgs st) (defBody st) (defScope st) .none kV doc pm an cdv ct) ⟨us, []⟩ = pure (ps.zip us)) : Cal P w K mg base k x sp := by
  obtain ⟨f, fd, F, hm⟩ := D.ex
  exact ⟨f, fd, ps, h f fd F, hm, F.kp, F.binds hb⟩
theorem MethIn.met (D : MethIn K C m qual st) (cl : Cls K C) (h : ∀ f fd, L2.Fun K m qual st f fd → FnOk P w K mg base L2.CX0 k f fd ps sp)
    (hb : ∀ (kV doc pm : Value) (an : Option Addr) (cdv ct : Value) (us : List Value), us.length = ps.length → bindArgs (PySem.W.fnOf m qual (defArgs st) (defBody st) (defScope st) .none kV doc pm an cdv ct) ⟨us, []⟩ = pure (ps.zip us)) : Met P w K mg base k C m sp := by
  obtain ⟨f, fd, F, hm⟩ := D.ex
  exact ⟨f, fd, ps, cl, hm, h f fd F, F.binds hb⟩
theorem MethIn.mak (D : MethIn K C "__init__" qual st) (hC : mg x = some (.ref C)) (mk : PySem.W.makesIn K C = true) (kc : PySem.W.keepIn K (.ref C) = true) (h : ∀ f fd, L2.Fun K "__init__" qual st f fd → FnOk P w K mg base L2.CX0 k f fd ps sp)
    (hb : ∀ (kV doc pm : Value) (an : Option Addr) (cdv ct : Value) (us : List Value), us.length = ps.length → bindArgs (PySem.W.fnOf "__init__" qual (defArgs st) (defBody st) (defScope st) .none kV doc pm an cdv ct) ⟨us, []⟩ = pure (ps.zip us)) : Mak P w K mg base k x C sp := by
  obtain ⟨f, fd, F, hm⟩ := D.ex
  exact ⟨f, fd, ps, ⟨mk, hm.at_, hm.fn, kc⟩, h f fd F, hC, F.binds hb⟩
theorem DefKw.cal (D : DefKw K mg x st) (h : ∀ f fd, FunD K x x (defArgs st) (defBody st) (defScope st) [] [("first", .int 0)] f fd → FnOk P w K mg base L2.CX0 k f fd ps sp) (hn : n + 1 = ps.length)
    (h0 : ∀ (D : Addr) (doc pm : Value) (an : Option Addr) (cdv ct : Value) (us ks : List Value), us.length = n → ks.length = 1 → KwChain D ((["first"] : List Str).zip ks) (bindArgs (PySem.W.fnOf x x (defArgs st) (defBody st) (defScope st) .none (.ref D) doc pm an cdv ct) ⟨us, []⟩) (ps.zip (us ++ ks)))
    (h1 : ∀ (kV doc pm : Value) (an : Option Addr) (cdv ct : Value) (us ws : List Value), us.length = n → ws.length = 1 → bindArgs (PySem.W.fnOf x x (defArgs st) (defBody st) (defScope st) .none kV doc pm an cdv ct) ⟨us, (["first"] : List Str).zip ws⟩ = pure (ps.zip (us ++ ws))) : CalK P w K mg base k n x sp := by
  obtain ⟨f, fd, F, hm⟩ := D.ex
  refine ⟨f, fd, ps, h f fd F, hm, F.kp, F.binds0 n (by simp) hn h0, ⟨fun s us ws X l1 l2 => ?_, fun r1 r2 => r1.append r2⟩⟩
  obtain ⟨oc, od, dV, kV, doc, pm, an, cdv, ct, osl, rfl, lk, hcd, hD, hK⟩ := F.ex
  rcases hD with ⟨_, rfl⟩ | ⟨e, _⟩
  · exact .of_eq (h1 kV doc pm an cdv ct us ws l1 l2)
  · exact absurd rfl e
end
theorem _root_.L2.Fun.binds1 {K : PySem.W.Frag} {x qual : Str} {st : Stmt} {f : Addr} {fd : FuncData} (F : L2.Fun K x qual st f fd)
    (hb : ∀ (kV doc pm : Value) (an : Option Addr) (cdv ct : Value) (us : List Value), us.length = (["script"] : List Str).length → bindArgs (PySem.W.fnOf x qual (defArgs st) (defBody st) (defScope st) .none kV doc pm an cdv ct) ⟨us, []⟩ = pure ((["script"] : List Str).zip us)) (s : Shared) (v : Value) : BindsTo s fd ⟨[v], []⟩ [("script", v)] := by
  obtain ⟨oc, od, kV, doc, pm, an, cdv, ct, osl, rfl, lk, hcd⟩ := F.ex
  exact .of_eq (hb kV doc pm an cdv ct [v] rfl)
end Lp
namespace Lp
open PySem PySem.Spec PyProof.Rows L2 LamX NdefX
/-- a def under its name, its code object at c -/
structure DefC (K : PySem.W.Frag) (mg : Str → Option Value) (x : Str) (st : Stmt) (c : Addr) : Prop where
  ex : ∃ (f : Addr) (fd : FuncData), FunC K x x st f c fd ∧ mg x = some (.ref f)
theorem defC_mk {K : PySem.W.Frag} {h : Heap} {mg : Str → Option Value} {x : Str} {st : Stmt} {f c : Addr} {oc : Value} {od an : Option Addr} {osl : Array (Option Value)} {kV doc pm ct : Value} (X : K.In h) (G : h.Ns mainGlobals mg) (a : PySem.W.nsIn K mainGlobals x = some (some (.ref f)))
    (l : K.lookup f = some ⟨oc, od, .func (PySem.W.fnOf x x (defArgs st) (defBody st) (defScope st) .none kV doc pm an (.ref c) ct), osl⟩) (cd : PySem.W.codeIn K (.ref c) x = true) (k : PySem.W.keepIn K (.ref f) = true) : DefC K mg x st c :=
  ⟨f, _, ⟨⟨oc, od, kV, doc, pm, an, ct, osl, rfl, l, cd⟩, k⟩, PySem.W.mg_of X G a⟩
section
variable {P : Program} {w : World} {K : PySem.W.Frag} {mg : Str → Option Value} {base : Heap} {x : Str} {st : Stmt} {c : Addr} {k n : Nat} {ps : List Str} {sp : Sp}
theorem DefC.cal (D : DefC K mg x st c) (h : ∀ f fd, FunC K x x st f c fd → FnOk P w K mg base L2.CX0 k f fd ps sp)
    (hb : ∀ (kV doc pm : Value) (an : Option Addr) (cdv ct : Value) (us : List Value), us.length = ps.length → bindArgs (PySem.W.fnOf x x (defArgs st) (defBody st) (defScope st) .none kV doc pm an cdv ct) ⟨us, []⟩ = pure (ps.zip us)) : Cal P w K mg base k x sp := by
  obtain ⟨f, fd, F, hm⟩ := D.ex
  exact ⟨f, fd, ps, h f fd F, hm, F.kp, F.fn.binds hb⟩
theorem DefIn.lt (D : DefIn K mg "least_true" s_least_true) : CalLT P w K mg base "least_true" := by
  obtain ⟨f, fd, F, hm⟩ := D.ex
  exact lt_run F hm
end
end Lp
namespace Lp
open PySem PySem.Spec PyProof.Rows L2 LamX NdefX
/-- a def with the keyword first under its name, its code object at c -/
structure DefKwC (K : PySem.W.Frag) (mg : Str → Option Value) (x : Str) (st : Stmt) (c : Addr) : Prop where
  ex : ∃ (f : Addr) (fd : FuncData), FunDC K x x st f c fd ∧ mg x = some (.ref f)
theorem defKwC_mk {K : PySem.W.Frag} {h : Heap} {mg : Str → Option Value} {x : Str} {st : Stmt} {f D c : Addr} {oc : Value} {od an : Option Addr} {osl : Array (Option Value)} {doc pm ct u : Value} (X : K.In h) (G : h.Ns mainGlobals mg) (a : PySem.W.nsIn K mainGlobals x = some (some (.ref f)))
    (l : K.lookup f = some ⟨oc, od, .func (PySem.W.fnOf x x (defArgs st) (defBody st) (defScope st) .none (.ref D) doc pm an (.ref c) ct), osl⟩) (d : PySem.W.nsIn K D "first" = some (some u)) (r : RelV (.int 0) u) (cd : PySem.W.codeIn K (.ref c) x = true) (k : PySem.W.keepIn K (.ref f) = true) : DefKwC K mg x st c :=
  ⟨f, _, ⟨⟨⟨oc, od, _, _, doc, pm, an, .ref c, ct, osl, rfl, l, cd, .inl ⟨rfl, rfl⟩, .inr ⟨D, rfl, fun q hq => by
    rcases List.mem_cons.mp hq with e | hq
    · rw [e]; exact ⟨_, d, r⟩
    · cases hq⟩⟩, k⟩, rfl⟩, PySem.W.mg_of X G a⟩
section
variable {P : Program} {w : World} {K : PySem.W.Frag} {mg : Str → Option Value} {base : Heap} {x : Str} {st : Stmt} {c : Addr} {k n : Nat} {ps : List Str} {sp : Sp}
theorem DefKwC.cal (D : DefKwC K mg x st c) (h : ∀ f fd, FunDC K x x st f c fd → FnOk P w K mg base L2.CX0 k f fd ps sp) (hn : n + 1 = ps.length)
    (h0 : ∀ (D : Addr) (doc pm : Value) (an : Option Addr) (cdv ct : Value) (us ks : List Value), us.length = n → ks.length = 1 → KwChain D ((["first"] : List Str).zip ks) (bindArgs (PySem.W.fnOf x x (defArgs st) (defBody st) (defScope st) .none (.ref D) doc pm an cdv ct) ⟨us, []⟩) (ps.zip (us ++ ks)))
    (h1 : ∀ (kV doc pm : Value) (an : Option Addr) (cdv ct : Value) (us ws : List Value), us.length = n → ws.length = 1 → bindArgs (PySem.W.fnOf x x (defArgs st) (defBody st) (defScope st) .none kV doc pm an cdv ct) ⟨us, (["first"] : List Str).zip ws⟩ = pure (ps.zip (us ++ ws))) : CalK P w K mg base k n x sp := by
  obtain ⟨f, fd, F, hm⟩ := D.ex
  refine ⟨f, fd, ps, h f fd F, hm, F.fn.kp, F.fn.binds0 n (by simp) hn h0, ⟨fun s us ws X l1 l2 => ?_, fun r1 r2 => r1.append r2⟩⟩
  obtain ⟨oc, od, dV, kV, doc, pm, an, cdv, ct, osl, e, lk, hcd, hD, hK⟩ := F.fn.ex
  subst e
  rcases hD with ⟨_, rfl⟩ | ⟨e, _⟩
  · exact .of_eq (h1 kV doc pm an cdv ct us ws l1 l2)
  · exact absurd rfl e
end
end Lp
namespace Lp
open PySem PySem.Spec PyProof.Rows L2 LamX NdefX
section
variable {P : Program} {w : World} {K : PySem.W.Frag} {mg : Str → Option Value} {base : Heap} {x : Str} {st : Stmt} {c : Addr} {k n : Nat} {ps : List Str} {sp : Sp}
theorem DefIn.calX (D : DefIn K mg x st) (h : ∀ f fd, L2.Fun K x x st f fd → FnOk P w K mg base (L2N.CX P w) k f fd ps sp)
    (hb : ∀ (kV doc pm : Value) (an : Option Addr) (cdv ct : Value) (us : List Value), us.length = ps.length → bindArgs (PySem.W.fnOf x x (defArgs st) (defBody st) (defScope st) .none kV doc pm an cdv ct) ⟨us, []⟩ = pure (ps.zip us)) : CalX P w K mg base k x sp := by
  obtain ⟨f, fd, F, hm⟩ := D.ex
  exact ⟨f, fd, ps, h f fd F, hm, F.kp, F.binds hb⟩
theorem DefKw.calX (D : DefKw K mg x st) (h : ∀ f fd, FunD K x x (defArgs st) (defBody st) (defScope st) [] [("first", .int 0)] f fd → FnOk P w K mg base (L2N.CX P w) k f fd ps sp)
    (h1 : ∀ (kV doc pm : Value) (an : Option Addr) (cdv ct : Value) (us ws : List Value), us.length = n → ws.length = 1 → bindArgs (PySem.W.fnOf x x (defArgs st) (defBody st) (defScope st) .none kV doc pm an cdv ct) ⟨us, (["first"] : List Str).zip ws⟩ = pure (ps.zip (us ++ ws))) : CalXK P w K mg base k n x sp := by
  obtain ⟨f, fd, F, hm⟩ := D.ex
  refine ⟨f, fd, ps, h f fd F, hm, F.kp, ⟨fun s us ws X l1 l2 => ?_, fun r1 r2 => r1.append r2⟩⟩
  obtain ⟨oc, od, dV, kV, doc, pm, an, cdv, ct, osl, rfl, lk, hcd, hD, hK⟩ := F.ex
  rcases hD with ⟨_, rfl⟩ | ⟨e, _⟩
  · exact .of_eq (h1 kV doc pm an cdv ct us ws l1 l2)
  · exact absurd rfl e
theorem DefKwC.calX (D : DefKwC K mg x st c) (h : ∀ f fd, FunD K x x (defArgs st) (defBody st) (defScope st) [] [("first", .int 0)] f fd → FnOk P w K mg base (L2N.CX P w) k f fd ps sp)
    (h1 : ∀ (kV doc pm : Value) (an : Option Addr) (cdv ct : Value) (us ws : List Value), us.length = n → ws.length = 1 → bindArgs (PySem.W.fnOf x x (defArgs st) (defBody st) (defScope st) .none kV doc pm an cdv ct) ⟨us, (["first"] : List Str).zip ws⟩ = pure (ps.zip (us ++ ws))) : CalXK P w K mg base k n x sp := by
  obtain ⟨f, fd, F, hm⟩ := D.ex
  exact DefKw.calX ⟨f, fd, F.fn, hm⟩ h h1
theorem DefIn.ref {N : Errs} {DE : Addr} (D : DefIn K mg "_law_refused" s_law_refused) (B : Bls mg) (R : RefIn K mg N DE) : CalRef P w K mg base N "_law_refused" := by
  obtain ⟨f, fd, F, hm⟩ := D.ex
  exact ref_run F hm B R
end
/-! ### the classes of error, by computing -/
def errB (K : PySem.W.Frag) (de a : Addr) : Bool :=
  PySem.W.excIn K a PySem.HandSPX.veTail "ValueError.__new__" && PySem.W.keepIn K (.ref a) && PySem.W.subIn K (.ref a) (.type "BaseException") == some true && PySem.W.typeIn K (.ref a) == some (.type "type") && PySem.W.exmOne K (.ref a) (.ref de) == some true &&
  PySem.W.findIn K (.ref a) "__getattribute__" == some (some (.builtin "BaseException.__getattribute__")) && PySem.W.findIn K (.ref a) "__getattr__" == some none && PySem.W.hasDictIn K a && PySem.W.findIn K (.ref a) "__class__" == some (some (.builtin "object.__class__")) &&
  PySem.W.specialIn K (.builtin "object.__class__") "__get__" == some (some (.builtin "getset_descriptor.__get__")) && PySem.W.takesIn K (.builtin "object.__class__") == some true && PySem.W.mroIn K a (.type "object") == some true && PySem.W.kitOne K (.ref a) (.type "ValueError") == some true
structure ErrP (K : PySem.W.Frag) (de a : Addr) : Prop where
  made : PySem.W.excIn K a PySem.HandSPX.veTail "ValueError.__new__" = true
  kC : PySem.W.keepIn K (.ref a) = true
  sub : PySem.W.subIn K (.ref a) (.type "BaseException") = some true
  ty : PySem.W.typeIn K (.ref a) = some (.type "type")
  exm : PySem.W.exmOne K (.ref a) (.ref de) = some true
  exc : ExcC K a
  kve : PySem.W.kitOne K (.ref a) (.type "ValueError") = some true
theorem errP_of {K : PySem.W.Frag} {de a : Addr} (h : errB K de a = true) : ErrP K de a := by
  unfold errB at h
  simp only [Bool.and_eq_true, beq_iff_eq] at h
  obtain ⟨⟨⟨⟨⟨⟨⟨⟨⟨⟨⟨⟨h1, h2⟩, h3⟩, h4⟩, h5⟩, h6⟩, h7⟩, h8⟩, h9⟩, h10⟩, h11⟩, h12⟩, h13⟩ := h
  exact ⟨h1, h2, h3, h4, h5, ⟨h6, h7, h3, h8, h9, h10, h11, h12⟩, h13⟩
def kitB (K : PySem.W.Frag) (l : List Addr) : Bool := l.all fun C => l.all fun D => PySem.W.kitOne K (.ref C) (.ref D) == some (decide (C = D))
theorem refIn_mk {K : PySem.W.Frag} {mg : Str → Option Value} {a1 a2 a3 a4 a5 a6 de : Addr} (g1 : mg "NoTable" = some (.ref a1)) (g2 : mg "NoDish" = some (.ref a2)) (g3 : mg "NoSeat" = some (.ref a3)) (g4 : mg "NoShares" = some (.ref a4)) (g5 : mg "NoNumber" = some (.ref a5)) (g6 : mg "NoPair" = some (.ref a6)) (gd : mg "DishError" = some (.ref de)) (gv : mg "ValueError" = none)
    (b : ([a1, a2, a3, a4, a5, a6].all (errB K de)) = true) (kt : kitB K [a1, a2, a3, a4, a5, a6] = true) (nd : [a1, a2, a3, a4, a5, a6].Nodup) : RefIn K mg ⟨a1, a2, a3, a4, a5, a6⟩ de := by
  have bb : ∀ a ∈ [a1, a2, a3, a4, a5, a6], ErrP K de a := fun a ha => errP_of (List.all_eq_true.mp b a ha)
  have c : ∀ {x : Str} {a : Addr}, mg x = some (.ref a) → a ∈ [a1, a2, a3, a4, a5, a6] → ErrC K mg x a := fun g m => ⟨(bb _ m).made, g, (bb _ m).kC, (bb _ m).sub, (bb _ m).ty⟩
  exact ⟨⟨c g1 (by simp), c g2 (by simp), c g3 (by simp), c g4 (by simp), c g5 (by simp), c g6 (by simp)⟩, gd, gv, fun C h => (bb C h).exm, fun C h => (bb C h).exc,
    fun C h D h' => beq_iff_eq.mp (List.all_eq_true.mp (List.all_eq_true.mp kt C h) D h'), fun C h => (bb C h).kve, nd⟩
end Lp
namespace Lp
open PySem PySem.Spec PyProof.Rows L2 LamX NdefX
structure Facts (K : PySem.W.Frag) (mg : Str → Option Value) (c0 c1 c2 c3 c4 : Addr) (N : Errs) (DE : Addr) : Prop where
  bls : Bls mg
  greatest : Greatest mg
  smalls : Smalls mg
  going : ∃ C : Addr, mg "Going" = some (.ref C) ∧ GoT K C ∧ PySem.W.makesIn K C = true ∧ PySem.W.keepIn K (.ref C) = true ∧ MethIn K C "would_take" "Going.would_take" s_Going_would_take ∧ MethIn K C "visit" "Going.visit" s_Going_visit ∧ MethIn K C "rounds" "Going.rounds" s_Going_rounds ∧ MethIn K C "__init__" "Going.__init__" s_Going_init ∧ MethIn K C "go" "Going.go" s_Going_go
  d_least_true : DefIn K mg "least_true" s_least_true
  d_is_within : DefIn K mg "is_within" s_is_within
  d_is_guest : DefIn K mg "is_guest" s_is_guest
  d_is_table : DefIn K mg "is_table" s_is_table
  d_need_table : DefIn K mg "need_table" s_need_table
  d_need_dish : DefIn K mg "need_dish" s_need_dish
  d_need_seat : DefIn K mg "need_seat" s_need_seat
  d_need_asked : DefIn K mg "need_asked" s_need_asked
  d_rested : DefIn K mg "rested" s_rested
  d_shares : DefKw K mg "shares" s_shares
  d_left : DefKw K mg "left" s_left
  d_need_number : DefIn K mg "need_number" s_need_number
  d_taker : DefKw K mg "taker" s_taker
  d_law_cell_at : DefIn K mg "_law_cell_at" s_law_cell_at
  d_law_draws : DefIn K mg "_law_draws" s_law_draws
  d_law_bag : DefIn K mg "_law_bag" s_law_bag
  d_law_bags : DefIn K mg "_law_bags" s_law_bags
  d_law_take : DefIn K mg "_law_take" s_law_take
  d_law_far_draw : DefIn K mg "_law_far_draw" s_law_far_draw
  d_law_table : DefIn K mg "_law_table" s_law_table
  d_gains : DefKw K mg "gains" s_gains
  d_least_with : DefC K mg "least_with" s_least_with c0
  d_least_of_all : DefIn K mg "least_of_all" s_least_of_all
  d_need_shares : DefIn K mg "need_shares" s_need_shares
  d_least_dish : DefKw K mg "least_dish" s_least_dish
  d_dishes : DefKw K mg "dishes" s_dishes
  d_with_guest : DefIn K mg "with_guest" s_with_guest
  d_need_seen : DefIn K mg "need_seen" s_need_seen
  d_courtesies : DefKwC K mg "courtesies" s_courtesies c1
  d_enoughs : DefKwC K mg "enoughs" s_enoughs c2
  d_is_small : DefIn K mg "is_small" s_is_small
  d_parted : DefIn K mg "parted" s_parted
  d_law_asked : DefIn K mg "_law_asked" s_law_asked
  d_law_kin_of : DefC K mg "_law_kin_of" s_law_kin_of c3
  d_law_pairs_refused : DefC K mg "_law_pairs_refused" s_law_pairs_refused c4
  d_law : DefIn K mg "law" s_law
  d_law_refused : DefIn K mg "_law_refused" s_law_refused
  refin : RefIn K mg N DE
theorem fin {P : Program} {w : World} {K : PySem.W.Frag} {mg : Str → Option Value} {fa c0 c1 c2 c3 c4 : Addr} {N : Errs} {DE : Addr} (hfa : mg "law" = some (.ref fa)) (A : Facts K mg c0 c1 c2 c3 c4 N DE) :
    ∃ fd : FuncData, (∀ (s : Shared) (v : Value), BindsTo s fd ⟨[v], []⟩ [("script", v)]) ∧ ∀ (base : Heap) (P0 P1 P2 P3 P4 : Addr) (n01 : P0 ≠ P1) (n02 : P0 ≠ P2) (n03 : P0 ≠ P3) (n04 : P0 ≠ P4) (n12 : P1 ≠ P2) (n13 : P1 ≠ P3) (n14 : P1 ≠ P4) (n23 : P2 ≠ P3) (n24 : P2 ≠ P4) (n34 : P3 ≠ P4), K.In base → base.Ns mainGlobals mg → TabB base mg c0 P0 → TabB base mg c1 P1 → TabB base mg c2 P2 → TabB base mg c3 P3 → TabB base mg c4 P4 → FnOk P w K mg base L2.CX0 14 fa fd ["script"] (spLawT K [(P0, lwName), (P1, cName), (P2, eName), (P3, kinName), (P4, pairName)]) := by
  obtain ⟨fl, fd, Fl, hl⟩ := A.d_law.ex
  rw [hfa] at hl
  cases hl
  refine ⟨fd, fun s v => Fl.binds1 (fun _ _ _ _ _ _ us hl => match us, hl with | [_], _ => rfl) s v, fun base P0 P1 P2 P3 P4 n01 n02 n03 n04 n12 n13 n14 n23 n24 n34 KX NX B0 B1 B2 B3 B4 => ?_⟩
  have B := A.bls
  have G := A.greatest
  have I0 : TabIn [(P0, lwName), (P1, cName), (P2, eName), (P3, kinName), (P4, pairName)] P0 lwName := ⟨by simp, fun p hp e => by
    simp only [List.mem_cons, List.not_mem_nil, or_false] at hp
    rcases hp with rfl | rfl | rfl | rfl | rfl
    · rfl
    · exact absurd e (Ne.symm n01)
    · exact absurd e (Ne.symm n02)
    · exact absurd e (Ne.symm n03)
    · exact absurd e (Ne.symm n04)⟩
  have I1 : TabIn [(P0, lwName), (P1, cName), (P2, eName), (P3, kinName), (P4, pairName)] P1 cName := ⟨by simp, fun p hp e => by
    simp only [List.mem_cons, List.not_mem_nil, or_false] at hp
    rcases hp with rfl | rfl | rfl | rfl | rfl
    · exact absurd e n01
    · rfl
    · exact absurd e (Ne.symm n12)
    · exact absurd e (Ne.symm n13)
    · exact absurd e (Ne.symm n14)⟩
  have I2 : TabIn [(P0, lwName), (P1, cName), (P2, eName), (P3, kinName), (P4, pairName)] P2 eName := ⟨by simp, fun p hp e => by
    simp only [List.mem_cons, List.not_mem_nil, or_false] at hp
    rcases hp with rfl | rfl | rfl | rfl | rfl
    · exact absurd e n02
    · exact absurd e n12
    · rfl
    · exact absurd e (Ne.symm n23)
    · exact absurd e (Ne.symm n24)⟩
  have I3 : TabIn [(P0, lwName), (P1, cName), (P2, eName), (P3, kinName), (P4, pairName)] P3 kinName := ⟨by simp, fun p hp e => by
    simp only [List.mem_cons, List.not_mem_nil, or_false] at hp
    rcases hp with rfl | rfl | rfl | rfl | rfl
    · exact absurd e n03
    · exact absurd e n13
    · exact absurd e n23
    · rfl
    · exact absurd e (Ne.symm n34)⟩
  have I4 : TabIn [(P0, lwName), (P1, cName), (P2, eName), (P3, kinName), (P4, pairName)] P4 pairName := ⟨by simp, fun p hp e => by
    simp only [List.mem_cons, List.not_mem_nil, or_false] at hp
    rcases hp with rfl | rfl | rfl | rfl | rfl
    · exact absurd e n04
    · exact absurd e n14
    · exact absurd e n24
    · exact absurd e n34
    · rfl⟩
  have S := A.smalls
  obtain ⟨C, hC, T, mkC, kpC, i_would_take, i_visit, i_rounds, i_init, i_go⟩ := A.going
  have R := A.refin.all
  have c_least_true : CalLT P w K mg base "least_true" := A.d_least_true.lt
  have c_is_within : Cal P w K mg base 1 "is_within" (spWithin K) := A.d_is_within.cal (fun f fd F => ok_is_within F B) (fun _ _ _ _ _ _ us hl => match us, hl with | [_, _, _], _ => rfl)
  have c_is_guest : Cal P w K mg base 2 "is_guest" (spGuest K) := A.d_is_guest.cal (fun f fd F => ok_is_guest F B G c_is_within) (fun _ _ _ _ _ _ us hl => match us, hl with | [_], _ => rfl)
  have c_is_table : Cal P w K mg base 3 "is_table" (spTable K) := A.d_is_table.cal (fun f fd F => ok_is_table F B c_is_guest) (fun _ _ _ _ _ _ us hl => match us, hl with | [_], _ => rfl)
  have c_need_table : Cal P w K mg base 4 "need_table" (spNeedTable K) := A.d_need_table.cal (fun f fd F => ok_need_table F B c_is_table) (fun _ _ _ _ _ _ us hl => match us, hl with | [_], _ => rfl)
  have c_need_dish : Cal P w K mg base 2 "need_dish" spNeedDish := A.d_need_dish.cal (fun f fd F => ok_need_dish F B G c_is_within) (fun _ _ _ _ _ _ us hl => match us, hl with | [_], _ => rfl)
  have c_need_seat : Cal P w K mg base 2 "need_seat" (spNeedSeat K) := A.d_need_seat.cal (fun f fd F => ok_need_seat F B c_is_within) (fun _ _ _ _ _ _ us hl => match us, hl with | [_, _], _ => rfl)
  have c_need_asked : Cal P w K mg base 5 "need_asked" (spNeedAsked K) := A.d_need_asked.cal (fun f fd F => ok_need_asked F B c_need_table c_need_dish) (fun _ _ _ _ _ _ us hl => match us, hl with | [_, _], _ => rfl)
  have m_would_take : Met P w K mg base 1 C "would_take" (spWould K C) := i_would_take.met T.cl (fun f fd F => ok_would F T) (fun _ _ _ _ _ _ us hl => match us, hl with | [_, _], _ => rfl)
  have m_visit : Met P w K mg base 2 C "visit" (spVisit K C) := i_visit.met T.cl (fun f fd F => ok_visit F T B m_would_take) (fun _ _ _ _ _ _ us hl => match us, hl with | [_], _ => rfl)
  have m_rounds : Met P w K mg base 1 C "rounds" (spRounds K C) := i_rounds.met T.cl (fun f fd F => ok_rounds F T B) (fun _ _ _ _ _ _ us hl => match us, hl with | [_, _, _], _ => rfl)
  have n_Going : Mak P w K mg base 1 "Going" C (spInit K C) := i_init.mak hC mkC kpC (fun f fd F => ok_init F T B) (fun _ _ _ _ _ _ us hl => match us, hl with | [_, _, _, _], _ => rfl)
  have m_go : Met P w K mg base 3 C "go" (spGo K C) := i_go.met T.cl (fun f fd F => ok_go F T B m_would_take m_rounds m_visit) (fun _ _ _ _ _ _ us hl => match us, hl with | [_, _], _ => rfl)
  have c_rested : Cal P w K mg base 4 "rested" (spRested K) := A.d_rested.cal (fun f fd F => ok_rested F T n_Going m_go) (fun _ _ _ _ _ _ us hl => match us, hl with | [_, _, _], _ => rfl)
  have k_shares : CalK P w K mg base 6 2 "shares" (spShares K) := A.d_shares.cal (fun f fd F => ok_shares F c_need_asked c_need_seat c_rested) (by rfl) (fun _ _ _ _ _ _ us ks hl hk => match us, hl, ks, hk with | [_, _], _, [_], _ => ⟨_, _, _, _, _, _, rfl, rfl, rfl⟩) (fun _ _ _ _ _ _ us ks hl hk => match us, hl, ks, hk with | [_, _], _, [_], _ => rfl)
  have k_left : CalK P w K mg base 6 2 "left" (spLeft K) := A.d_left.cal (fun f fd F => ok_left F c_need_asked c_need_seat c_rested) (by rfl) (fun _ _ _ _ _ _ us ks hl hk => match us, hl, ks, hk with | [_, _], _, [_], _ => ⟨_, _, _, _, _, _, rfl, rfl, rfl⟩) (fun _ _ _ _ _ _ us ks hl hk => match us, hl, ks, hk with | [_, _], _, [_], _ => rfl)
  have c_need_number : Cal P w K mg base 2 "need_number" spNeedNumber := A.d_need_number.cal (fun f fd F => ok_need_number F B G c_is_within) (fun _ _ _ _ _ _ us hl => match us, hl with | [_], _ => rfl)
  have k_taker : CalK P w K mg base 6 3 "taker" (spTaker K) := A.d_taker.cal (fun f fd F => ok_taker F T c_need_asked c_need_seat c_need_number n_Going m_go) (by rfl) (fun _ _ _ _ _ _ us ks hl hk => match us, hl, ks, hk with | [_, _, _], _, [_], _ => ⟨_, _, _, _, _, _, rfl, rfl, rfl⟩) (fun _ _ _ _ _ _ us ks hl hk => match us, hl, ks, hk with | [_, _, _], _, [_], _ => rfl)
  have c_law_cell_at : Cal P w K mg base 1 "_law_cell_at" (spCell K) := A.d_law_cell_at.cal (fun f fd F => ok_cell F B) (fun _ _ _ _ _ _ us hl => match us, hl with | [_, _], _ => rfl)
  have c_law_draws : Cal P w K mg base 1 "_law_draws" spDraws := A.d_law_draws.cal (fun f fd F => ok_draws F B) (fun _ _ _ _ _ _ us hl => match us, hl with | [_, _, _], _ => rfl)
  have c_law_bag : Cal P w K mg base 2 "_law_bag" (spBag K) := A.d_law_bag.cal (fun f fd F => ok_bag F c_law_cell_at c_law_draws) (fun _ _ _ _ _ _ us hl => match us, hl with | [_, _], _ => rfl)
  have c_law_bags : Cal P w K mg base 3 "_law_bags" (spBags K) := A.d_law_bags.cal (fun f fd F => ok_bags F B c_law_bag) (fun _ _ _ _ _ _ us hl => match us, hl with | [_, _], _ => rfl)
  have c_law_take : Cal P w K mg base 1 "_law_take" (spTake K) := A.d_law_take.cal (fun f fd F => ok_take F B) (fun _ _ _ _ _ _ us hl => match us, hl with | [_, _], _ => rfl)
  have c_law_far_draw : Cal P w K mg base 2 "_law_far_draw" (spFar K) := A.d_law_far_draw.cal (fun f fd F => ok_far F B c_law_take) (fun _ _ _ _ _ _ us hl => match us, hl with | [_, _], _ => rfl)
  have c_law_table : Cal P w K mg base 3 "_law_table" (spLawTable K) := A.d_law_table.cal (fun f fd F => ok_ltable F B c_law_take c_law_far_draw) (fun _ _ _ _ _ _ us hl => match us, hl with | [_, _, _], _ => rfl)
  have k_gains : CalK P w K mg base 6 2 "gains" (spGains K) := A.d_gains.cal (fun f fd F => ok_gains F B c_need_asked c_need_seat c_rested) (by rfl) (fun _ _ _ _ _ _ us ks hl hk => match us, hl, ks, hk with | [_, _], _, [_], _ => ⟨_, _, _, _, _, _, rfl, rfl, rfl⟩) (fun _ _ _ _ _ _ us ks hl hk => match us, hl, ks, hk with | [_, _], _, [_], _ => rfl)
  have c_least_with : Cal P w K mg base 7 "least_with" (spLW K [(P0, lwName), (P1, cName), (P2, eName), (P3, kinName), (P4, pairName)]) := A.d_least_with.cal (fun f fd F => ok_least_with F B B0 I0 c_rested c_least_true) (fun _ _ _ _ _ _ us hl => match us, hl with | [_, _, _, _], _ => rfl)
  have c_least_of_all : Cal P w K mg base 8 "least_of_all" (spLOA K [(P0, lwName), (P1, cName), (P2, eName), (P3, kinName), (P4, pairName)]) := A.d_least_of_all.cal (fun f fd F => ok_least_of_all F B c_least_with) (fun _ _ _ _ _ _ us hl => match us, hl with | [_, _, _], _ => rfl)
  have c_need_shares : Cal P w K mg base 2 "need_shares" (spNeedShares K) := A.d_need_shares.cal (fun f fd F => ok_need_shares F B G c_is_within) (fun _ _ _ _ _ _ us hl => match us, hl with | [_, _], _ => rfl)
  have k_least_dish : CalK P w K mg base 9 2 "least_dish" (spLeastDish K [(P0, lwName), (P1, cName), (P2, eName), (P3, kinName), (P4, pairName)]) := A.d_least_dish.cal (fun f fd F => ok_least_dish F B c_need_table c_need_shares c_need_seat c_least_of_all) (by rfl) (fun _ _ _ _ _ _ us ks hl hk => match us, hl, ks, hk with | [_, _], _, [_], _ => ⟨_, _, _, _, _, _, rfl, rfl, rfl⟩) (fun _ _ _ _ _ _ us ks hl hk => match us, hl, ks, hk with | [_, _], _, [_], _ => rfl)
  have k_dishes : CalK P w K mg base 9 2 "dishes" (spDishes K [(P0, lwName), (P1, cName), (P2, eName), (P3, kinName), (P4, pairName)]) := A.d_dishes.cal (fun f fd F => ok_dishes F B c_need_table c_need_shares c_need_seat c_rested c_least_with c_least_of_all) (by rfl) (fun _ _ _ _ _ _ us ks hl hk => match us, hl, ks, hk with | [_, _], _, [_], _ => ⟨_, _, _, _, _, _, rfl, rfl, rfl⟩) (fun _ _ _ _ _ _ us ks hl hk => match us, hl, ks, hk with | [_, _], _, [_], _ => rfl)
  have c_with_guest : Cal P w K mg base 1 "with_guest" (spGuestIn K) := A.d_with_guest.cal (fun f fd F => ok_with_guest F) (fun _ _ _ _ _ _ us hl => match us, hl with | [_, _, _], _ => rfl)
  have c_need_seen : Cal P w K mg base 6 "need_seen" (spNeedSeen K) := A.d_need_seen.cal (fun f fd F => ok_need_seen F c_need_asked c_need_shares c_need_seat) (fun _ _ _ _ _ _ us hl => match us, hl with | [_, _, _, _, _], _ => rfl)
  have k_courtesies : CalK P w K mg base 8 4 "courtesies" (spCourt K [(P0, lwName), (P1, cName), (P2, eName), (P3, kinName), (P4, pairName)]) := A.d_courtesies.cal (fun f fd F => ok_courtesies F B G B1 I1 c_need_seen c_with_guest c_rested c_least_true) (by rfl) (fun _ _ _ _ _ _ us ks hl hk => match us, hl, ks, hk with | [_, _, _, _], _, [_], _ => ⟨_, _, _, _, _, _, rfl, rfl, rfl⟩) (fun _ _ _ _ _ _ us ks hl hk => match us, hl, ks, hk with | [_, _, _, _], _, [_], _ => rfl)
  have k_enoughs : CalK P w K mg base 8 4 "enoughs" (spEnough K [(P0, lwName), (P1, cName), (P2, eName), (P3, kinName), (P4, pairName)]) := A.d_enoughs.cal (fun f fd F => ok_enoughs F B G B2 I2 c_need_seen c_with_guest c_rested c_least_true) (by rfl) (fun _ _ _ _ _ _ us ks hl hk => match us, hl, ks, hk with | [_, _, _, _], _, [_], _ => ⟨_, _, _, _, _, _, rfl, rfl, rfl⟩) (fun _ _ _ _ _ _ us ks hl hk => match us, hl, ks, hk with | [_, _, _, _], _, [_], _ => rfl)
  have c_is_small : Cal P w K mg base 1 "is_small" (spIsSmall K) := A.d_is_small.cal (fun f fd F => ok_is_small F S) (fun _ _ _ _ _ _ us hl => match us, hl with | [_], _ => rfl)
  have x_need_table : CalX P w K mg base 4 "need_table" (xpTable K N) := A.d_need_table.calX (fun f fd F => ok_xneed_table F R c_is_table) (fun _ _ _ _ _ _ us hl => match us, hl with | [_], _ => rfl)
  have x_need_dish : CalX P w K mg base 2 "need_dish" (xpDish K N) := A.d_need_dish.calX (fun f fd F => ok_xneed_dish F R G c_is_within) (fun _ _ _ _ _ _ us hl => match us, hl with | [_], _ => rfl)
  have x_need_number : CalX P w K mg base 2 "need_number" (xpNumber K N) := A.d_need_number.calX (fun f fd F => ok_xneed_number F R G c_is_within) (fun _ _ _ _ _ _ us hl => match us, hl with | [_], _ => rfl)
  have x_need_seat : CalX P w K mg base 2 "need_seat" (xpSeat K N) := A.d_need_seat.calX (fun f fd F => ok_xneed_seat F B R c_is_within) (fun _ _ _ _ _ _ us hl => match us, hl with | [_, _], _ => rfl)
  have x_need_shares : CalX P w K mg base 2 "need_shares" (xpShares K N) := A.d_need_shares.calX (fun f fd F => ok_xneed_shares F B R G c_is_within) (fun _ _ _ _ _ _ us hl => match us, hl with | [_, _], _ => rfl)
  have x_need_asked : CalX P w K mg base 5 "need_asked" (xpAsked K N) := A.d_need_asked.calX (fun f fd F => ok_xneed_asked F x_need_table x_need_dish) (fun _ _ _ _ _ _ us hl => match us, hl with | [_, _], _ => rfl)
  have x_need_seen : CalX P w K mg base 6 "need_seen" (xpSeen K N) := A.d_need_seen.calX (fun f fd F => ok_xneed_seen F x_need_asked x_need_shares x_need_seat) (fun _ _ _ _ _ _ us hl => match us, hl with | [_, _, _, _, _], _ => rfl)
  have x_shares : CalXK P w K mg base 6 2 "shares" (xpDoor K N 3 mk3) := A.d_shares.calX (fun f fd F => ok_xshares F x_need_asked x_need_seat) (fun _ _ _ _ _ _ us ks hl hk => match us, hl, ks, hk with | [_, _], _, [_], _ => rfl)
  have x_left : CalXK P w K mg base 6 2 "left" (xpDoor K N 3 mk3) := A.d_left.calX (fun f fd F => ok_xleft F x_need_asked x_need_seat) (fun _ _ _ _ _ _ us ks hl hk => match us, hl, ks, hk with | [_, _], _, [_], _ => rfl)
  have x_gains : CalXK P w K mg base 6 2 "gains" (xpDoor K N 3 mk3) := A.d_gains.calX (fun f fd F => ok_xgains F x_need_asked x_need_seat) (fun _ _ _ _ _ _ us ks hl hk => match us, hl, ks, hk with | [_, _], _, [_], _ => rfl)
  have x_taker : CalXK P w K mg base 6 3 "taker" (xpDoor K N 4 mkTake) := A.d_taker.calX (fun f fd F => ok_xtaker F x_need_asked x_need_number x_need_seat) (fun _ _ _ _ _ _ us ks hl hk => match us, hl, ks, hk with | [_, _, _], _, [_], _ => rfl)
  have x_dishes : CalXK P w K mg base 9 2 "dishes" (xpDoor K N 3 mkDish) := A.d_dishes.calX (fun f fd F => ok_xdishes F x_need_table x_need_shares x_need_seat) (fun _ _ _ _ _ _ us ks hl hk => match us, hl, ks, hk with | [_, _], _, [_], _ => rfl)
  have x_least_dish : CalXK P w K mg base 9 2 "least_dish" (xpDoor K N 3 mkDish) := A.d_least_dish.calX (fun f fd F => ok_xleast_dish F x_need_table x_need_shares x_need_seat) (fun _ _ _ _ _ _ us ks hl hk => match us, hl, ks, hk with | [_, _], _, [_], _ => rfl)
  have x_courtesies : CalXK P w K mg base 8 4 "courtesies" (xpDoor K N 5 mkFit) := A.d_courtesies.calX (fun f fd F => ok_xcourtesies F x_need_seen) (fun _ _ _ _ _ _ us ks hl hk => match us, hl, ks, hk with | [_, _, _, _], _, [_], _ => rfl)
  have x_enoughs : CalXK P w K mg base 8 4 "enoughs" (xpDoor K N 5 mkFit) := A.d_enoughs.calX (fun f fd F => ok_xenoughs F x_need_seen) (fun _ _ _ _ _ _ us ks hl hk => match us, hl, ks, hk with | [_, _, _, _], _, [_], _ => rfl)
  have c_is_smallB : Cal P w K mg base 1 "is_small" (spSmallB K) := A.d_is_small.cal (fun f fd F => ok_is_smallB F S) (fun _ _ _ _ _ _ us hl => match us, hl with | [_], _ => rfl)
  have x_parted : CalX P w K mg base 5 "parted" (spPartAny K N) := A.d_parted.calX (fun f fd F => fn_or (fn_up (ok_parted F B S c_need_table c_is_small c_rested)) (ok_xparted F B R x_need_table c_is_smallB)) (fun _ _ _ _ _ _ us hl => match us, hl with | [_, _], _ => rfl)
  have x_law_asked : CalX P w K mg base 10 "_law_asked" (spAskAny K [(P0, lwName), (P1, cName), (P2, eName), (P3, kinName), (P4, pairName)] N) := A.d_law_asked.calX (fun f fd F => fn_or (fn_up (ok_asked F k_shares k_left k_taker k_gains k_dishes k_least_dish k_courtesies k_enoughs)) (ok_xasked F x_shares x_left x_taker x_gains x_dishes x_least_dish x_courtesies x_enoughs)) (fun _ _ _ _ _ _ us hl => match us, hl with | [_, _, _, _, _, _], _ => rfl)
  have c_ref := A.d_law_refused.ref (P := P) (w := w) (base := base) B A.refin
  have c_law_kin_of : Cal P w K mg base 13 "_law_kin_of" (spKin K [(P0, lwName), (P1, cName), (P2, eName), (P3, kinName), (P4, pairName)] N) := A.d_law_kin_of.cal (fun f fd F => ok_kin F B3 I3 x_law_asked c_ref) (fun _ _ _ _ _ _ us hl => match us, hl with | [_, _, _, _, _, _], _ => rfl)
  have c_law_pairs_refused : Cal P w K mg base 8 "_law_pairs_refused" (spPairs K [(P0, lwName), (P1, cName), (P2, eName), (P3, kinName), (P4, pairName)]) := A.d_law_pairs_refused.cal (fun f fd F => ok_pairs F B B4 I4 c_law_take c_law_table x_parted c_ref) (fun _ _ _ _ _ _ us hl => match us, hl with | [_], _ => rfl)
  exact ok_law Fl B c_law_bags c_law_take c_law_table c_law_kin_of c_law_pairs_refused
end Lp
namespace Lp
open PySem PySem.Spec PyProof.Rows L2 LamX NdefX
theorem law_end {l : PySem.W.OpenLaw} {w : World} {K : PySem.W.Frag} {mg : Str → Option Value} {fa : Addr} {h : Heap} {ts : List Addr} (KX : K.In h) (hmg : mg "law" = some (.ref fa)) (hT : ∀ P ∈ ts, h.get? P = some (PySem.W.tabObj #[])) (key : ∃ (c0 c1 c2 c3 c4 : Addr) (N : Errs) (DE : Addr), Facts K mg c0 c1 c2 c3 c4 N DE ∧ PySem.W.codeHdIn K c0 243 = true ∧ K.lookup 243 = none ∧ PySem.W.codeHdIn K c1 290 = true ∧ K.lookup 290 = none ∧ PySem.W.codeHdIn K c2 298 = true ∧ K.lookup 298 = none ∧ PySem.W.codeHdIn K c3 378 = true ∧ K.lookup 378 = none ∧ PySem.W.codeHdIn K c4 385 = true ∧ K.lookup 385 = none) (m0 : 243 ∈ ts := by simp) (m1 : 290 ∈ ts := by simp) (m2 : 298 ∈ ts := by simp) (m3 : 378 ∈ ts := by simp) (m4 : 385 ∈ ts := by simp) :
    LawAtS l w K L2.CX0 14 63 "script" mg fa h := by
  obtain ⟨c0, c1, c2, c3, c4, N, DE, A, hd0, nl0, hd1, nl1, hd2, nl2, hd3, nl3, hd4, nl4⟩ := key
  obtain ⟨fd, hb, hF⟩ := fin (P := l.prog) (w := w) hmg A
  refine ⟨fd, [(c0, 243), (c1, 290), (c2, 298), (c3, 378), (c4, 385)], spLawT K [((243 : Addr), Lp.lwName), ((290 : Addr), Lp.cName), ((298 : Addr), Lp.eName), ((378 : Addr), Lp.kinName), ((385 : Addr), Lp.pairName)], fun p hp => ?_, fun p hp => ?_, fun p hp => ?_, hb, fun H a ns hl _ hH hS => ⟨a, ns, rfl, hS, hl, fun p hp => ?_, fun _ => rfl⟩, fun base KB NB TB => hF base 243 290 298 378 385 (by decide) (by decide) (by decide) (by decide) (by decide) (by decide) (by decide) (by decide) (by decide) (by decide) KB NB (TB (c0, 243) (by simp)) (TB (c1, 290) (by simp)) (TB (c2, 298) (by simp)) (TB (c3, 378) (by simp)) (TB (c4, 385) (by simp))⟩
  · simp only [List.mem_cons, List.not_mem_nil, or_false] at hp
    rcases hp with rfl | rfl | rfl | rfl | rfl
    · exact hT _ m0
    · exact hT _ m1
    · exact hT _ m2
    · exact hT _ m3
    · exact hT _ m4
  · simp only [List.mem_cons, List.not_mem_nil, or_false] at hp
    rcases hp with rfl | rfl | rfl | rfl | rfl
    · exact nl0
    · exact nl1
    · exact nl2
    · exact nl3
    · exact nl4
  · simp only [List.mem_cons, List.not_mem_nil, or_false] at hp
    rcases hp with rfl | rfl | rfl | rfl | rfl
    · exact PySem.W.codeHd_of_K KX hd0
    · exact PySem.W.codeHd_of_K KX hd1
    · exact PySem.W.codeHd_of_K KX hd2
    · exact PySem.W.codeHd_of_K KX hd3
    · exact PySem.W.codeHd_of_K KX hd4
  · simp only [List.mem_cons, List.not_mem_nil, or_false] at hp
    rcases hp with rfl | rfl | rfl | rfl | rfl
    · exact TabN.nil (hH (c0, 243) (by simp))
    · exact TabN.nil (hH (c1, 290) (by simp))
    · exact TabN.nil (hH (c2, 298) (by simp))
    · exact TabN.nil (hH (c3, 378) (by simp))
    · exact TabN.nil (hH (c4, 385) (by simp))
end Lp
open PySem PySem.W PyProof.Rows
set_option maxHeartbeats 0 in
open_top head for PySem.Challenge.rw_lastpiece_k14_who_is_refused
set_option maxRecDepth 100000 in
set_option maxHeartbeats 0 in
theorem PySem.Challenge.cw_lastpiece_k14_who_is_refused_holds : PySem.Challenge.rw_lastpiece_k14_who_is_refused.Holds := by
  exact head (by
  k_fill
  refine LamX.walk_ofTs (n := 63) (k := 14) (x := "script") (CX := fun _ => L2.CX0) rfl (by decide) rfl ⟨rfl, by decide, by decide⟩ (fun w h Y => PySem.W.km_in_of Y) ?F fun _ _ _ _ _ z => z
  case F =>
    intro w mg fa h Y KX G hmg
    have hT := PySem.W.km_tabs_of Y
    refine Lp.law_end KX hmg hT ?key
    refine' ⟨?tc_c0, ?tc_c1, ?tc_c2, ?tc_c3, ?tc_c4, ?tN, ?tDE, ⟨⟨PySem.W.mg_none_of KX G (by k_is), PySem.W.mg_none_of KX G (by k_is), PySem.W.mg_none_of KX G (by k_is), PySem.W.mg_none_of KX G (by k_is), PySem.W.mg_none_of KX G (by k_is), PySem.W.mg_none_of KX G (by k_is), PySem.W.mg_none_of KX G (by k_is), PySem.W.mg_none_of KX G (by k_is), PySem.W.mg_none_of KX G (by k_is), PySem.W.mg_none_of KX G (by k_is), PySem.W.mg_none_of KX G (by k_is), PySem.W.mg_none_of KX G (by k_is), PySem.W.mg_none_of KX G (by k_is), PySem.W.mg_none_of KX G (by k_is), PySem.W.mg_none_of KX G (by k_is), PySem.W.mg_none_of KX G (by k_is)⟩, ?_, ?_, ?_, ?_, ?_, ?_, ?_, ?_, ?_, ?_, ?_, ?_, ?_, ?_, ?_, ?_, ?_, ?_, ?_, ?_, ?_, ?_, ?_, ?_, ?_, ?_, ?_, ?_, ?_, ?_, ?_, ?_, ?_, ?_, ?_, ?_, ?_, ?_, ?_, ?_, ?_⟩, ?hd0, ?nl0, ?hd1, ?nl1, ?hd2, ?nl2, ?hd3, ?nl3, ?hd4, ?nl4⟩
    rotate_left 7
    · refine' ⟨_, PySem.W.mg_of KX G ?ag, ?rg⟩; (case ag => k_is); exact ⟨_, rfl⟩
    · refine' ⟨⟨_, PySem.W.mg_of KX G ?as1, ?rs1⟩, ⟨_, PySem.W.mg_of KX G ?as2, ?rs2⟩⟩; (case as1 => k_is); (case as2 => k_is); exact ⟨_, rfl⟩; exact ⟨_, rfl⟩
    · refine' ⟨_, PySem.W.mg_of KX G ?a, ⟨L2.Cls.mk ?c1 ?c2 ?c3 ?c4, ?n1, ?n2, ?n3, ?n4, ?n5, ?n6⟩, ?mk, ?kc, Lp.methIn_mk ?a0 ?l0 ?i0 ?c0_ ?k0, Lp.methIn_mk ?a1 ?l1 ?i1 ?c1_ ?k1, Lp.methIn_mk ?a2 ?l2 ?i2 ?c2_ ?k2, Lp.methIn_mk ?a3 ?l3 ?i3 ?c3_ ?k3, Lp.methIn_mk ?a4 ?l4 ?i4 ?c4_ ?k4⟩; (case a => k_is)
      (case a0 => k_is)
      (case l0 => k_is)
      (case i0 => k_is)
      (case c0_ => k_is)
      (case k0 => k_is)
      (case a1 => k_is)
      (case l1 => k_is)
      (case i1 => k_is)
      (case c1_ => k_is)
      (case k1 => k_is)
      (case a2 => k_is)
      (case l2 => k_is)
      (case i2 => k_is)
      (case c2_ => k_is)
      (case k2 => k_is)
      (case a3 => k_is)
      (case l3 => k_is)
      (case i3 => k_is)
      (case c3_ => k_is)
      (case k3 => k_is)
      (case a4 => k_is)
      (case l4 => k_is)
      (case i4 => k_is)
      (case c4_ => k_is)
      (case k4 => k_is)
      (case c1 => k_is)
      (case c2 => k_is)
      (case c3 => k_is)
      (case c4 => k_is)
      (case n1 => show PySem.W.findIn _ _ _ = _; k_is)
      (case n2 => show PySem.W.findIn _ _ _ = _; k_is)
      (case n3 => show PySem.W.findIn _ _ _ = _; k_is)
      (case n4 => show PySem.W.findIn _ _ _ = _; k_is)
      (case n5 => show PySem.W.findIn _ _ _ = _; k_is)
      (case n6 => show PySem.W.findIn _ _ _ = _; k_is)
      (case mk => k_is)
      (case kc => k_is)
    · refine' Lp.defIn_mk KX G ?a_lt ?l_lt ?c_lt ?k_lt; (case a_lt => k_is); (case l_lt => k_is); (case c_lt => k_is); (case k_lt => k_is)
    · refine' Lp.defIn_mk KX G ?a_0 ?l_0 ?c_0 ?k_0; (case a_0 => k_is); (case l_0 => k_is); (case c_0 => k_is); (case k_0 => k_is)
    · refine' Lp.defIn_mk KX G ?a_1 ?l_1 ?c_1 ?k_1; (case a_1 => k_is); (case l_1 => k_is); (case c_1 => k_is); (case k_1 => k_is)
    · refine' Lp.defIn_mk KX G ?a_2 ?l_2 ?c_2 ?k_2; (case a_2 => k_is); (case l_2 => k_is); (case c_2 => k_is); (case k_2 => k_is)
    · refine' Lp.defIn_mk KX G ?a_3 ?l_3 ?c_3 ?k_3; (case a_3 => k_is); (case l_3 => k_is); (case c_3 => k_is); (case k_3 => k_is)
    · refine' Lp.defIn_mk KX G ?a_4 ?l_4 ?c_4 ?k_4; (case a_4 => k_is); (case l_4 => k_is); (case c_4 => k_is); (case k_4 => k_is)
    · refine' Lp.defIn_mk KX G ?a_5 ?l_5 ?c_5 ?k_5; (case a_5 => k_is); (case l_5 => k_is); (case c_5 => k_is); (case k_5 => k_is)
    · refine' Lp.defIn_mk KX G ?a_6 ?l_6 ?c_6 ?k_6; (case a_6 => k_is); (case l_6 => k_is); (case c_6 => k_is); (case k_6 => k_is)
    · refine' Lp.defIn_mk KX G ?a_12 ?l_12 ?c_12 ?k_12; (case a_12 => k_is); (case l_12 => k_is); (case c_12 => k_is); (case k_12 => k_is)
    · refine' Lp.defKw_mk KX G ?a_13 ?l_13 ?d_13 ?r_13 ?c_13 ?k_13; (case a_13 => k_is); (case l_13 => k_is); (case d_13 => k_is); (case r_13 => exact ⟨_, rfl⟩); (case c_13 => k_is); (case k_13 => k_is)
    · refine' Lp.defKw_mk KX G ?a_14 ?l_14 ?d_14 ?r_14 ?c_14 ?k_14; (case a_14 => k_is); (case l_14 => k_is); (case d_14 => k_is); (case r_14 => exact ⟨_, rfl⟩); (case c_14 => k_is); (case k_14 => k_is)
    · refine' Lp.defIn_mk KX G ?a_15 ?l_15 ?c_15 ?k_15; (case a_15 => k_is); (case l_15 => k_is); (case c_15 => k_is); (case k_15 => k_is)
    · refine' Lp.defKw_mk KX G ?a_16 ?l_16 ?d_16 ?r_16 ?c_16 ?k_16; (case a_16 => k_is); (case l_16 => k_is); (case d_16 => k_is); (case r_16 => exact ⟨_, rfl⟩); (case c_16 => k_is); (case k_16 => k_is)
    · refine' Lp.defIn_mk KX G ?a_17 ?l_17 ?c_17 ?k_17; (case a_17 => k_is); (case l_17 => k_is); (case c_17 => k_is); (case k_17 => k_is)
    · refine' Lp.defIn_mk KX G ?a_18 ?l_18 ?c_18 ?k_18; (case a_18 => k_is); (case l_18 => k_is); (case c_18 => k_is); (case k_18 => k_is)
    · refine' Lp.defIn_mk KX G ?a_19 ?l_19 ?c_19 ?k_19; (case a_19 => k_is); (case l_19 => k_is); (case c_19 => k_is); (case k_19 => k_is)
    · refine' Lp.defIn_mk KX G ?a_20 ?l_20 ?c_20 ?k_20; (case a_20 => k_is); (case l_20 => k_is); (case c_20 => k_is); (case k_20 => k_is)
    · refine' Lp.defIn_mk KX G ?a_21 ?l_21 ?c_21 ?k_21; (case a_21 => k_is); (case l_21 => k_is); (case c_21 => k_is); (case k_21 => k_is)
    · refine' Lp.defIn_mk KX G ?a_22 ?l_22 ?c_22 ?k_22; (case a_22 => k_is); (case l_22 => k_is); (case c_22 => k_is); (case k_22 => k_is)
    · refine' Lp.defIn_mk KX G ?a_23 ?l_23 ?c_23 ?k_23; (case a_23 => k_is); (case l_23 => k_is); (case c_23 => k_is); (case k_23 => k_is)
    · refine' Lp.defKw_mk KX G ?a_24 ?l_24 ?d_24 ?r_24 ?c_24 ?k_24; (case a_24 => k_is); (case l_24 => k_is); (case d_24 => k_is); (case r_24 => exact ⟨_, rfl⟩); (case c_24 => k_is); (case k_24 => k_is)
    · refine' Lp.defC_mk KX G ?a_25 ?l_25 ?c_25 ?k_25; (case a_25 => k_is); (case l_25 => k_is); (case c_25 => k_is); (case k_25 => k_is)
    · refine' Lp.defIn_mk KX G ?a_26 ?l_26 ?c_26 ?k_26; (case a_26 => k_is); (case l_26 => k_is); (case c_26 => k_is); (case k_26 => k_is)
    · refine' Lp.defIn_mk KX G ?a_27 ?l_27 ?c_27 ?k_27; (case a_27 => k_is); (case l_27 => k_is); (case c_27 => k_is); (case k_27 => k_is)
    · refine' Lp.defKw_mk KX G ?a_28 ?l_28 ?d_28 ?r_28 ?c_28 ?k_28; (case a_28 => k_is); (case l_28 => k_is); (case d_28 => k_is); (case r_28 => exact ⟨_, rfl⟩); (case c_28 => k_is); (case k_28 => k_is)
    · refine' Lp.defKw_mk KX G ?a_29 ?l_29 ?d_29 ?r_29 ?c_29 ?k_29; (case a_29 => k_is); (case l_29 => k_is); (case d_29 => k_is); (case r_29 => exact ⟨_, rfl⟩); (case c_29 => k_is); (case k_29 => k_is)
    · refine' Lp.defIn_mk KX G ?a_30 ?l_30 ?c_30 ?k_30; (case a_30 => k_is); (case l_30 => k_is); (case c_30 => k_is); (case k_30 => k_is)
    · refine' Lp.defIn_mk KX G ?a_31 ?l_31 ?c_31 ?k_31; (case a_31 => k_is); (case l_31 => k_is); (case c_31 => k_is); (case k_31 => k_is)
    · refine' Lp.defKwC_mk KX G ?a_32 ?l_32 ?d_32 ?r_32 ?c_32 ?k_32; (case a_32 => k_is); (case l_32 => k_is); (case d_32 => k_is); (case r_32 => exact ⟨_, rfl⟩); (case c_32 => k_is); (case k_32 => k_is)
    · refine' Lp.defKwC_mk KX G ?a_33 ?l_33 ?d_33 ?r_33 ?c_33 ?k_33; (case a_33 => k_is); (case l_33 => k_is); (case d_33 => k_is); (case r_33 => exact ⟨_, rfl⟩); (case c_33 => k_is); (case k_33 => k_is)
    · refine' Lp.defIn_mk KX G ?a_34 ?l_34 ?c_34 ?k_34; (case a_34 => k_is); (case l_34 => k_is); (case c_34 => k_is); (case k_34 => k_is)
    · refine' Lp.defIn_mk KX G ?a_35 ?l_35 ?c_35 ?k_35; (case a_35 => k_is); (case l_35 => k_is); (case c_35 => k_is); (case k_35 => k_is)
    · refine' Lp.defIn_mk KX G ?a_36 ?l_36 ?c_36 ?k_36; (case a_36 => k_is); (case l_36 => k_is); (case c_36 => k_is); (case k_36 => k_is)
    · refine' Lp.defC_mk KX G ?a_37 ?l_37 ?c_37 ?k_37; (case a_37 => k_is); (case l_37 => k_is); (case c_37 => k_is); (case k_37 => k_is)
    · refine' Lp.defC_mk KX G ?a_38 ?l_38 ?c_38 ?k_38; (case a_38 => k_is); (case l_38 => k_is); (case c_38 => k_is); (case k_38 => k_is)
    · refine' Lp.defIn_mk KX G ?a_39 ?l_39 ?c_39 ?k_39; (case a_39 => k_is); (case l_39 => k_is); (case c_39 => k_is); (case k_39 => k_is)
    · refine' Lp.defIn_mk KX G ?a_ref ?l_ref ?c_ref ?k_ref; (case a_ref => k_is); (case l_ref => k_is); (case c_ref => k_is); (case k_ref => k_is)
    · refine' Lp.refIn_mk (PySem.W.mg_of KX G ?e0) (PySem.W.mg_of KX G ?e1) (PySem.W.mg_of KX G ?e2) (PySem.W.mg_of KX G ?e3) (PySem.W.mg_of KX G ?e4) (PySem.W.mg_of KX G ?e5) (PySem.W.mg_of KX G ?e6) (PySem.W.mg_none_of KX G (by k_is)) ?eb ?ek ?en
      (case e0 => k_is)
      (case e1 => k_is)
      (case e2 => k_is)
      (case e3 => k_is)
      (case e4 => k_is)
      (case e5 => k_is)
      (case e6 => k_is)
      (case eb => kernel_rfl)
      (case ek => kernel_rfl)
      (case en => decide)
    · kernel_rfl
    · kernel_rfl
    · kernel_rfl
    · kernel_rfl
    · kernel_rfl
    · kernel_rfl
    · kernel_rfl
    · kernel_rfl
    · kernel_rfl
    · kernel_rfl)
