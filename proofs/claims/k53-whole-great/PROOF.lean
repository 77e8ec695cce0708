import PyProof.Rows.All
import Wide.All
import OpenK.AllK
import Wide.FinOn
import PyProof.ReprRoads
import PyProof.ReprLen
import HandS.ForMost
import HandS.Style
import HandS.TupAny
import HandS.Small
import HandS.DictComp
import HandS.Wide
import HandS.Defaults
import HandS.HeadEnd
import HandS.OwnEq
import KE.KStateDown
import HandS.Words
import HandS.WordsExc
import HandS.Head0
import HandS.Head1
import HandS.Head2
import HandS.HeadHook1
import HandS.HeadHook2
import PySem.Challenge.RW_leastmakers_k53_whole_great_numbers_and
section
set_option linter.all false
set_option autoImplicit false
/-! K53M, part 1: programs with one counter, their free way, rounds. Plain Lean. -/
namespace K53M
inductive Stp where
  | fin (w : Bool)
  | add (k to : Nat)
  | take (k to other : Nat)
  | rest (m : Nat) (tos : List Nat)
abbrev Pg := List Stp
abbrev S := Nat × Int

def isEnd (P : Pg) (p : Nat) : Bool := match P[p]? with
  | some (.fin _) => true
  | _ => false
def isRef (P : Pg) (s : S) : Bool := match P[s.1]? with
  | some (.take k _ _) => decide (s.2 < (k : Int))
  | _ => false
def other (P : Pg) (p : Nat) : Nat := match P[p]? with
  | some (.take _ _ o) => o
  | _ => p
def free (P : Pg) (s : S) : S := match P[s.1]? with
  | some (.add k to) => (to, s.2 + (k : Int))
  | some (.take k to _) => (to, s.2 - (k : Int))
  | some (.rest m tos) => (tos.getD (s.2 % (m : Int)).toNat 0, s.2)
  | _ => s
def step (P : Pg) (s : S) : S := if isRef P s = true then (other P s.1, s.2) else free P s
def runN (P : Pg) : Nat → S → S
  | 0, s => s
  | n + 1, s => runN P n (step P s)
def frN (P : Pg) : Nat → S → S
  | 0, s => s
  | n + 1, s => frN P n (free P s)

def StpOk (L M : Nat) : Stp → Prop
  | .fin _ => True
  | .add k to => 1 ≤ k ∧ k ≤ 4 ∧ to < L
  | .take k to o => 1 ≤ k ∧ k ≤ 4 ∧ to < L ∧ o < L
  | .rest m tos => 2 ≤ m ∧ m ≤ 6 ∧ tos.length = m ∧ (∀ t ∈ tos, t < L) ∧ m ∣ M
structure Ok (P : Pg) (M : Nat) : Prop where
  l1 : 1 ≤ P.length
  l6 : P.length ≤ 6
  m1 : 1 ≤ M
  m6 : M ≤ 6
  st : ∀ (p : Nat) (x : Stp), P[p]? = some x → StpOk P.length M x

theorem runN_add (P : Pg) : ∀ (a b : Nat) (s : S), runN P (a + b) s = runN P b (runN P a s)
  | 0, b, s => by rw [Nat.zero_add]; rfl
  | a + 1, b, s => by
    rw [Nat.add_right_comm]
    exact runN_add P a b (step P s)
theorem frN_add (P : Pg) : ∀ (a b : Nat) (s : S), frN P (a + b) s = frN P b (frN P a s)
  | 0, b, s => by rw [Nat.zero_add]; rfl
  | a + 1, b, s => by
    rw [Nat.add_right_comm]
    exact frN_add P a b (free P s)
theorem runN_succ (P : Pg) (n : Nat) (s : S) : runN P (n + 1) s = step P (runN P n s) := runN_add P n 1 s
theorem frN_succ (P : Pg) (n : Nat) (s : S) : frN P (n + 1) s = free P (frN P n s) := frN_add P n 1 s

section
variable {P : Pg} {M : Nat}
theorem Ok.has (o : Ok P M) {p : Nat} (h : p < P.length) : ∃ x, P[p]? = some x ∧ StpOk P.length M x := by
  have e : P[p]? = some P[p] := List.getElem?_eq_getElem h
  exact ⟨_, e, o.st p _ e⟩
theorem getD_lt {l : List Nat} {i L : Nat} (h : ∀ t ∈ l, t < L) (hi : i < l.length) : l.getD i 0 < L := by
  have e : l.getD i 0 = l[i] := by simp [List.getD, hi]
  rw [e]
  exact h _ (List.getElem_mem hi)
theorem Ok.free_lt (o : Ok P M) {s : S} (h : s.1 < P.length) : (free P s).1 < P.length := by
  obtain ⟨x, e, ok⟩ := o.has h
  unfold free
  rw [e]
  cases x with
  | fin w => exact h
  | add k to => exact ok.2.2
  | take k to ot => exact ok.2.2.1
  | rest m tos =>
    obtain ⟨h1, h2, h3, h4, h5⟩ := ok
    refine getD_lt h4 ?_
    have a1 : 0 ≤ s.2 % (m : Int) := Int.emod_nonneg _ (by omega)
    have a2 : s.2 % (m : Int) < (m : Int) := Int.emod_lt_of_pos _ (by omega)
    omega
theorem Ok.step_lt (o : Ok P M) {s : S} (h : s.1 < P.length) : (step P s).1 < P.length := by
  unfold step
  split
  · rename_i hr
    obtain ⟨x, e, ok⟩ := o.has h
    unfold isRef at hr
    unfold other
    rw [e] at hr ⊢
    cases x with
    | take k to ot => exact ok.2.2.2
    | _ => simp at hr
  · exact o.free_lt h
theorem Ok.frN_lt (o : Ok P M) : ∀ (n : Nat) {s : S}, s.1 < P.length → (frN P n s).1 < P.length
  | 0, _, h => h
  | n + 1, _, h => o.frN_lt n (o.free_lt h)
theorem Ok.runN_lt (o : Ok P M) : ∀ (n : Nat) {s : S}, s.1 < P.length → (runN P n s).1 < P.length
  | 0, _, h => h
  | n + 1, _, h => o.runN_lt n (o.step_lt h)
/-- a step leaves the counter a number -/
theorem step_nn {s : S} (h : 0 ≤ s.2) : 0 ≤ (step P s).2 := by
  unfold step
  split
  · exact h
  · rename_i hr
    unfold isRef at hr
    unfold free
    split <;> rename_i e
    · show 0 ≤ s.2 + _; omega
    · rw [e] at hr
      have hr : ¬ decide (s.2 < _) = true := hr
      rw [decide_eq_true_eq] at hr
      show 0 ≤ s.2 - _
      omega
    · exact h
    · exact h
theorem runN_nn : ∀ (n : Nat) {s : S}, 0 ≤ s.2 → 0 ≤ (runN P n s).2
  | 0, _, h => h
  | n + 1, _, h => runN_nn n (step_nn h)
theorem Ok.step_le (o : Ok P M) {s : S} (hp : s.1 < P.length) : (step P s).2 ≤ s.2 + 4 := by
  unfold step
  split
  · show s.2 ≤ _; omega
  · obtain ⟨x, e, ok⟩ := o.has hp
    unfold free
    rw [e]
    cases x with
    | fin w => show s.2 ≤ _; omega
    | add k to =>
      have := ok.2.1
      show s.2 + (k : Int) ≤ _
      omega
    | take k to ot => show s.2 - (k : Int) ≤ _; omega
    | rest m tos => show s.2 ≤ _; omega
/-! ### the free way hangs on the remainder alone -/
theorem Ok.free_shift (o : Ok P M) (p : Nat) (c t : Int) : free P (p, c + M * t) = ((free P (p, c)).1, (free P (p, c)).2 + M * t) := by
  unfold free
  cases e : P[p]? with
  | none => simp [e]
  | some x =>
    have ok := o.st p x e
    cases x with
    | fin w => simp [e]
    | add k to => simp only [e]; exact Prod.ext rfl (by show c + M * t + k = c + k + M * t; omega)
    | take k to ot => simp only [e]; exact Prod.ext rfl (by show c + M * t - k = c - k + M * t; omega)
    | rest m tos =>
      simp only [e]
      obtain ⟨q, hq⟩ := ok.2.2.2.2
      have h : (c + (M : Int) * t) % (m : Int) = c % (m : Int) := by
        rw [hq, Int.natCast_mul, Int.mul_assoc, Int.add_mul_emod_self_left]
      rw [h]
theorem Ok.frN_shift (o : Ok P M) : ∀ (n : Nat) (p : Nat) (c t : Int), frN P n (p, c + M * t) = ((frN P n (p, c)).1, (frN P n (p, c)).2 + M * t)
  | 0, p, c, t => rfl
  | n + 1, p, c, t => by
    show frN P n (free P (p, c + M * t)) = ((frN P n (free P (p, c))).1, (frN P n (free P (p, c))).2 + M * t)
    rw [o.free_shift]
    exact o.frN_shift n (free P (p, c)).1 (free P (p, c)).2 t
/-- the same begin -/
def Beg (M : Nat) (a b : S) : Prop := a.1 = b.1 ∧ (M : Int) ∣ a.2 - b.2
theorem Beg.symm {a b : S} (h : Beg M a b) : Beg M b a := ⟨h.1.symm, by have := Int.dvd_neg.mpr h.2; rwa [Int.neg_sub] at this⟩
theorem Beg.refl (a : S) : Beg M a a := ⟨rfl, by simp⟩
theorem Beg.trans {a b c : S} (h : Beg M a b) (k : Beg M b c) : Beg M a c := ⟨h.1.trans k.1, by
  have := Int.dvd_add h.2 k.2
  rwa [show a.2 - b.2 + (b.2 - c.2) = a.2 - c.2 by omega] at this⟩
theorem Ok.frN_beg (o : Ok P M) {a b : S} (h : Beg M a b) (n : Nat) : frN P n a = ((frN P n b).1, (frN P n b).2 + (a.2 - b.2)) := by
  obtain ⟨h1, t, h2⟩ := h
  obtain ⟨p, c⟩ := a
  obtain ⟨q, d⟩ := b
  have h1 : p = q := h1
  have h2 : c - d = M * t := h2
  subst h1
  have e : c = d + M * t := by omega
  rw [e, o.frN_shift]
  show _ = (_, _ + (d + M * t - d))
  rw [show d + (M : Int) * t - d = M * t by omega]
theorem Ok.beg_frN (o : Ok P M) {a b : S} (h : Beg M a b) (n : Nat) : Beg M (frN P n a) (frN P n b) := by
  rw [o.frN_beg h]
  exact ⟨rfl, by
    show (M : Int) ∣ (frN P n b).2 + (a.2 - b.2) - (frN P n b).2
    rw [show (frN P n b).2 + (a.2 - b.2) - (frN P n b).2 = a.2 - b.2 by omega]
    exact h.2⟩
/-! ### no end, no refusal on the way -/
def Good (P : Pg) (n : Nat) (s : S) : Prop := ∀ i, i < n → isEnd P (frN P i s).1 = false ∧ isRef P (frN P i s) = false
theorem Good.run {s : S} : ∀ {n : Nat}, Good P n s → runN P n s = frN P n s
  | 0, _ => rfl
  | n + 1, h => by
    have ih := Good.run (s := s) (n := n) fun i hi => h i (Nat.lt_succ_of_lt hi)
    rw [runN_succ, frN_succ, ih]
    unfold step
    rw [(h n (Nat.lt_succ_self n)).2]
    rfl
theorem Good.le {s : S} {m n : Nat} (h : Good P n s) (hm : m ≤ n) : Good P m s := fun i hi => h i (Nat.lt_of_lt_of_le hi hm)
theorem Good.at {s : S} {m n : Nat} (h : Good P n s) (hm : m ≤ n) : runN P m s = frN P m s := (h.le hm).run
theorem Good.add {s : S} {a b : Nat} (h : Good P a s) (k : Good P b (frN P a s)) : Good P (a + b) s := fun i hi => by
  by_cases hl : i < a
  · exact h i hl
  · have q := k (i - a) (by omega)
    rw [← frN_add, show a + (i - a) = i by omega] at q
    exact q
theorem good_of_run {s : S} : ∀ {n : Nat}, (∀ i, i < n → isEnd P (runN P i s).1 = false ∧ isRef P (runN P i s) = false) → Good P n s
  | 0, _ => fun i hi => absurd hi (Nat.not_lt_zero i)
  | n + 1, h => by
    have ih : Good P n s := good_of_run fun i hi => h i (Nat.lt_succ_of_lt hi)
    refine ih.add (b := 1) fun i hi => ?_
    have : i = 0 := by omega
    subst this
    show isEnd P (frN P n s).1 = false ∧ isRef P (frN P n s) = false
    rw [← ih.run]
    exact h n (Nat.lt_succ_self n)
theorem Good.notEnd {s : S} {n i : Nat} (h : Good P n s) (hi : i < n) : isEnd P (runN P i s).1 = false := by
  rw [h.at (Nat.le_of_lt hi)]
  exact (h i hi).1
theorem Good.notRef {s : S} {n i : Nat} (h : Good P n s) (hi : i < n) : isRef P (runN P i s) = false := by
  rw [h.at (Nat.le_of_lt hi)]
  exact (h i hi).2
/-- an end stays -/
theorem step_end {s : S} (h : isEnd P s.1 = true) : step P s = s := by
  unfold isEnd at h
  unfold step isRef free
  cases e : P[s.1]? with
  | none => simp
  | some x =>
    cases x with
    | fin w => simp
    | _ => rw [e] at h; simp at h
theorem runN_end {s : S} (h : isEnd P s.1 = true) : ∀ n, runN P n s = s
  | 0 => rfl
  | n + 1 => by
    show runN P n (step P s) = s
    rw [step_end h]
    exact runN_end h n

/-! ### rounds -/
/-- how much counter the takes of the first j steps want -/
def needN (P : Pg) (s : S) : Nat → Int
  | 0 => 0
  | j + 1 => match P[(frN P j s).1]? with
    | some (.take k _ _) => max (needN P s j) ((k : Int) + (s.2 - (frN P j s).2))
    | _ => needN P s j
def fallN (P : Pg) (s : S) (j : Nat) : Int := s.2 - (frN P j s).2
structure IsRound (P : Pg) (M : Nat) (s : S) (n : Nat) : Prop where
  pos : 1 ≤ n
  noend : ∀ i, i < n → isEnd P (frN P i s).1 = false
  ret : Beg M (frN P n s) s
  first : ∀ j, 0 < j → j < n → ¬ Beg M (frN P j s) s
theorem IsRound.uniq {s : S} {n m : Nat} (h : IsRound P M s n) (k : IsRound P M s m) : n = m := by
  rcases Nat.lt_trichotomy n m with q | q | q
  · exact absurd h.ret (k.first n h.pos q)
  · exact q
  · exact absurd k.ret (h.first m k.pos q)
theorem Ok.needN_beg (o : Ok P M) {a b : S} (h : Beg M a b) : ∀ j, needN P a j = needN P b j
  | 0 => rfl
  | j + 1 => by
    unfold needN
    rw [o.needN_beg h j, o.frN_beg h j]
    show (match P[(frN P j b).1]? with
      | some (.take k _ _) => max (needN P b j) ((k : Int) + (a.2 - ((frN P j b).2 + (a.2 - b.2))))
      | _ => needN P b j) = _
    rw [show a.2 - ((frN P j b).2 + (a.2 - b.2)) = b.2 - (frN P j b).2 by omega]
theorem Ok.fallN_beg (o : Ok P M) {a b : S} (h : Beg M a b) (j : Nat) : fallN P a j = fallN P b j := by
  unfold fallN
  rw [o.frN_beg h j]
  show a.2 - ((frN P j b).2 + (a.2 - b.2)) = _
  omega
theorem Ok.round_beg (o : Ok P M) {a b : S} (h : Beg M a b) {n : Nat} (r : IsRound P M b n) : IsRound P M a n := by
  refine ⟨r.pos, fun i hi => ?_, ?_, fun j h0 hj q => r.first j h0 hj ?_⟩
  · rw [o.frN_beg h i]
    exact r.noend i hi
  · exact ((o.beg_frN h n).trans r.ret).trans h.symm
  · exact ((o.beg_frN h j).symm.trans q).trans h
theorem needN_nn (s : S) : ∀ j, 0 ≤ needN P s j
  | 0 => Int.le_refl 0
  | j + 1 => by
    have ih := needN_nn s j
    unfold needN
    split
    · exact Int.le_trans ih (Int.le_max_left _ _)
    · exact ih
theorem needN_mono (s : S) (j : Nat) : needN P s j ≤ needN P s (j + 1) := by
  conv => rhs; unfold needN
  split
  · exact Int.le_max_left _ _
  · exact Int.le_refl _
theorem needN_le (s : S) {i j : Nat} (h : i ≤ j) : needN P s i ≤ needN P s j := by
  induction j with
  | zero => rw [Nat.le_zero.mp h]; exact Int.le_refl _
  | succ j ih =>
    rcases Nat.lt_or_ge i (j + 1) with q | q
    · exact Int.le_trans (ih (Nat.le_of_lt_succ q)) (needN_mono s j)
    · rw [Nat.le_antisymm h q]; exact Int.le_refl _
/-- enough counter: no refusal on the way -/
theorem need_ok (s : S) {n : Nat} (h : needN P s n ≤ s.2) {i : Nat} (hi : i < n) : isRef P (frN P i s) = false := by
  have h1 : needN P s (i + 1) ≤ s.2 := Int.le_trans (needN_le s hi) h
  unfold needN at h1
  unfold isRef
  split
  · rename_i k to ot e
    rw [e] at h1
    have h2 := Int.le_trans (Int.le_max_right _ _) h1
    exact decide_eq_false (by omega)
  · rfl
theorem need_good {s : S} {n : Nat} (h : needN P s n ≤ s.2) (he : ∀ i, i < n → isEnd P (frN P i s).1 = false) : Good P n s := fun i hi => ⟨he i hi, need_ok s h hi⟩
/-- too little: a refusal on the way -/
theorem need_ref {s : S} (h0 : 0 ≤ s.2) : ∀ {n : Nat}, s.2 < needN P s n → ∃ i, i < n ∧ isRef P (frN P i s) = true
  | 0, h => by
    have h : s.2 < 0 := h
    omega
  | n + 1, h => by
    by_cases q : s.2 < needN P s n
    · obtain ⟨i, hi, e⟩ := need_ref h0 q
      exact ⟨i, Nat.lt_succ_of_lt hi, e⟩
    · refine ⟨n, Nat.lt_succ_self n, ?_⟩
      unfold needN at h
      unfold isRef
      split
      · rename_i k to ot e
        rw [e] at h
        have h : s.2 < max (needN P s n) ((k : Int) + (s.2 - (frN P n s).2)) := h
        refine decide_eq_true ?_
        rcases Int.le_total (needN P s n) ((k : Int) + (s.2 - (frN P n s).2)) with z | z
        · rw [Int.max_eq_right z] at h; omega
        · rw [Int.max_eq_left z] at h; omega
      · rename_i e
        split at h
        · rename_i k to ot e2
          exact absurd e2 (e k to ot)
        · exact absurd h q
theorem good_need {s : S} (h0 : 0 ≤ s.2) {n : Nat} (g : Good P n s) : needN P s n ≤ s.2 := by
  by_cases q : s.2 < needN P s n
  · obtain ⟨i, hi, e⟩ := need_ref h0 q
    rw [(g i hi).2] at e
    cases e
  · omega
/-- a round gone through k times -/
theorem Ok.rounds (o : Ok P M) {p : Nat} {c : Int} {n : Nat} (r : IsRound P M (p, c) n) : ∀ (k : Nat), (∀ i : Nat, i < k → needN P (p, c) n ≤ c - i * fallN P (p, c) n) → Good P (k * n) (p, c) ∧ frN P (k * n) (p, c) = (p, c - k * fallN P (p, c) n)
  | 0, _ => by
    refine ⟨fun i hi => absurd hi (by simp), ?_⟩
    rw [Nat.zero_mul]
    show (p, c) = _
    simp
  | k + 1, h => by
    obtain ⟨g, e⟩ := o.rounds r k fun i hi => h i (Nat.lt_succ_of_lt hi)
    have hd : (M : Int) ∣ fallN P (p, c) n := by
      have := r.ret.symm.2
      exact this
    have bg : Beg M (p, c - k * fallN P (p, c) n) (p, c) := ⟨rfl, by
      show (M : Int) ∣ c - k * fallN P (p, c) n - c
      rw [show c - k * fallN P (p, c) n - c = -(k * fallN P (p, c) n) by omega]
      exact Int.dvd_neg.mpr (Int.dvd_mul_of_dvd_right hd)⟩
    have r2 := o.round_beg bg r
    have g2 : Good P n (p, c - k * fallN P (p, c) n) := need_good (by rw [o.needN_beg bg]; exact h k (Nat.lt_succ_self k)) r2.noend
    have e2 : frN P n (p, c - k * fallN P (p, c) n) = (p, c - (k + 1 : Nat) * fallN P (p, c) n) := by
      have q := o.fallN_beg bg n
      refine Prod.ext r2.ret.1 ?_
      have q2 : c - k * fallN P (p, c) n - (frN P n (p, c - k * fallN P (p, c) n)).2 = fallN P (p, c) n := q
      show (frN P n (p, c - k * fallN P (p, c) n)).2 = c - (k + 1 : Nat) * fallN P (p, c) n
      rw [Int.natCast_succ, Int.add_mul, Int.one_mul]
      omega
    rw [Nat.succ_mul]
    refine ⟨g.add (by rw [e]; exact g2), ?_⟩
    rw [frN_add, e, e2]
end
end K53M
end

section
set_option linter.all false
set_option autoImplicit false
/-! K53M, part 2: pigeons, rounds that are, what never ends; the course comes to an end. -/
namespace K53M
theorem ilt (a b : Int) : a < b ∨ b ≤ a := by omega
theorem least {p : Nat → Prop} (h : ∃ n, p n) : ∃ n, p n ∧ ∀ m, m < n → ¬ p m := by
  obtain ⟨n, hn⟩ := h
  induction n using Nat.strongRecOn with
  | ind n ih =>
    by_cases q : ∃ m, m < n ∧ p m
    · obtain ⟨m, hm, pm⟩ := q
      exact ih m hm pm
    · exact ⟨n, hn, fun m hm pm => q ⟨m, hm, pm⟩⟩
theorem nodup_lt : ∀ (n : Nat) (l : List Nat), l.Nodup → (∀ x ∈ l, x < n) → l.length ≤ n
  | 0, l, _, h => by
    cases l with
    | nil => exact Nat.le_refl _
    | cons a r => exact absurd (h a List.mem_cons_self) (Nat.not_lt_zero _)
  | n + 1, l, hn, h => by
    have ih := nodup_lt n (l.erase n) (hn.erase n) fun x hx => by
      have h1 := h x (List.mem_of_mem_erase hx)
      have h2 : x ≠ n := ((List.Nodup.mem_erase_iff hn).mp hx).1
      omega
    have h3 : l.length ≤ (l.erase n).length + 1 := by
      by_cases q : n ∈ l
      · rw [List.length_erase_of_mem q]; omega
      · rw [List.erase_of_not_mem q]; omega
    omega
theorem inj_lt {f : Nat → Nat} {k n : Nat} (hi : ∀ a b, a < b → b < k → f a ≠ f b) (hf : ∀ a, a < k → f a < n) : k ≤ n := by
  have h := nodup_lt n ((List.range k).map f) ?_ fun x hx => ?_
  · rwa [List.length_map, List.length_range] at h
  · unfold List.Nodup
    rw [List.pairwise_map]
    refine List.Pairwise.imp_of_mem (fun {a b} ha hb hlt => hi a b hlt (List.mem_range.mp hb)) (List.pairwise_lt_range (n := k))
  · obtain ⟨a, ha, rfl⟩ := List.mem_map.mp hx
    exact hf a (List.mem_range.mp ha)
/-- a begin as one number -/
def code (M : Nat) (s : S) : Nat := s.1 * M + (s.2 % (M : Int)).toNat
theorem code_lt {L M : Nat} (hM : 1 ≤ M) {s : S} (h : s.1 < L) : code M s < L * M := by
  have a1 : 0 ≤ s.2 % (M : Int) := Int.emod_nonneg _ (by omega)
  have a2 : s.2 % (M : Int) < (M : Int) := Int.emod_lt_of_pos _ (by omega)
  have a3 : (s.1 + 1) * M ≤ L * M := Nat.mul_le_mul_right M h
  rw [Nat.succ_mul] at a3
  unfold code
  omega
theorem code_beg {M : Nat} (hM : 1 ≤ M) {a b : S} (h : code M a = code M b) : Beg M a b := by
  have a1 : 0 ≤ a.2 % (M : Int) := Int.emod_nonneg _ (by omega)
  have a2 : a.2 % (M : Int) < (M : Int) := Int.emod_lt_of_pos _ (by omega)
  have b1 : 0 ≤ b.2 % (M : Int) := Int.emod_nonneg _ (by omega)
  have b2 : b.2 % (M : Int) < (M : Int) := Int.emod_lt_of_pos _ (by omega)
  unfold code at h
  have hd : ∀ p x : Nat, x < M → (p * M + x) / M = p := fun p x hx => by
    rw [Nat.mul_comm, Nat.mul_add_div (by omega), Nat.div_eq_of_lt hx, Nat.add_zero]
  have e1 : a.1 = b.1 := by
    have q1 := hd a.1 (a.2 % (M : Int)).toNat (by omega)
    have q2 := hd b.1 (b.2 % (M : Int)).toNat (by omega)
    rw [h] at q1
    omega
  rw [e1] at h
  refine ⟨e1, ?_⟩
  have e2 : a.2 % (M : Int) = b.2 % (M : Int) := by omega
  exact Int.dvd_of_emod_eq_zero (by rw [Int.sub_emod, e2, Int.sub_self]; rfl)
theorem beg_code {M : Nat} {a b : S} (h : Beg M a b) : code M a = code M b := by
  unfold code
  rw [h.1]
  have e : a.2 % (M : Int) = b.2 % (M : Int) := by
    obtain ⟨t, ht⟩ := h.2
    have : a.2 = b.2 + M * t := by omega
    rw [this, Int.add_mul_emod_self_left]
  rw [e]

section
variable {P : Pg} {M : Nat}
/-- a round has no more steps than there are begins -/
theorem Ok.round_le (o : Ok P M) {s : S} (hp : s.1 < P.length) {n : Nat} (r : IsRound P M s n) : n ≤ P.length * M := by
  refine inj_lt (f := fun i => code M (frN P i s)) (fun a b hab hb e => ?_) fun a _ => code_lt o.m1 (o.frN_lt a hp)
  have hb2 : Beg M (frN P a s) (frN P b s) := code_beg o.m1 e
  have h1 := o.beg_frN hb2 (n - b)
  rw [← frN_add, ← frN_add, show b + (n - b) = n by omega] at h1
  exact r.first (a + (n - b)) (by omega) (by omega) (h1.trans r.ret)
theorem Ok.le36 (o : Ok P M) : P.length * M ≤ 36 := by
  have := Nat.mul_le_mul o.l6 o.m6
  omega
theorem first_round {s : S} {j : Nat} (hj : 0 < j) (he : ∀ i, i < j → isEnd P (frN P i s).1 = false) (hr : Beg M (frN P j s) s) : ∃ n, n ≤ j ∧ IsRound P M s n := by
  obtain ⟨n, ⟨h0, h1⟩, h2⟩ := least (p := fun n => 0 < n ∧ Beg M (frN P n s) s) ⟨j, hj, hr⟩
  have hn : n ≤ j := by
    rcases Nat.lt_or_ge j n with q | q
    · exact absurd ⟨hj, hr⟩ (h2 j q)
    · exact q
  exact ⟨n, hn, h0, fun i hi => he i (Nat.lt_of_lt_of_le hi hn), h1, fun i hi hin q => h2 i hin ⟨hi, q⟩⟩
/-- a free way without an end comes to a round -/
theorem Ok.comes_round (o : Ok P M) {s : S} (hp : s.1 < P.length) (he : ∀ i, i ≤ P.length * M → isEnd P (frN P i s).1 = false) : ∃ a n, a ≤ P.length * M ∧ IsRound P M (frN P a s) n := by
  have h : ¬ ∀ a b, a < b → b < P.length * M + 1 → code M (frN P a s) ≠ code M (frN P b s) := fun h => by
    have := inj_lt (f := fun i => code M (frN P i s)) h fun a _ => code_lt o.m1 (o.frN_lt a hp)
    omega
  simp only [Classical.not_forall] at h
  obtain ⟨a, b, hab, hb, e⟩ := h
  have e := Classical.not_not.mp e
  have hb2 : Beg M (frN P b s) (frN P a s) := (code_beg o.m1 e).symm
  have hr : Beg M (frN P (b - a) (frN P a s)) (frN P a s) := by
    rw [← frN_add, show a + (b - a) = b by omega]
    exact hb2
  obtain ⟨n, hn, r⟩ := first_round (P := P) (M := M) (s := frN P a s) (j := b - a) (by omega) (fun i hi => by
    rw [← frN_add]
    exact he (a + i) (by omega)) hr
  exact ⟨a, n, by omega, r⟩
theorem Ok.frN_rounds (o : Ok P M) {s : S} {n : Nat} (r : IsRound P M s n) : ∀ (k : Nat), frN P (k * n) s = (s.1, s.2 - k * fallN P s n)
  | 0 => by
    rw [Nat.zero_mul]
    show s = _
    simp
  | k + 1 => by
    rw [Nat.succ_mul, frN_add, o.frN_rounds r k]
    have bg : Beg M (s.1, s.2 - k * fallN P s n) s := ⟨rfl, by
      show (M : Int) ∣ s.2 - k * fallN P s n - s.2
      rw [show s.2 - k * fallN P s n - s.2 = -(k * fallN P s n) by omega]
      exact Int.dvd_neg.mpr (Int.dvd_mul_of_dvd_right r.ret.symm.2)⟩
    have r2 := o.round_beg bg r
    have q2 : s.2 - k * fallN P s n - (frN P n (s.1, s.2 - k * fallN P s n)).2 = fallN P s n := o.fallN_beg bg n
    refine Prod.ext r2.ret.1 ?_
    show (frN P n (s.1, s.2 - k * fallN P s n)).2 = s.2 - (k + 1 : Nat) * fallN P s n
    rw [Int.natCast_succ, Int.add_mul, Int.one_mul]
    omega

/-! ### ends -/
def Never (P : Pg) (s : S) : Prop := ∀ N, isEnd P (runN P N s).1 = false
def HaltsAt (P : Pg) (s : S) (N : Nat) : Prop := isEnd P (runN P N s).1 = true ∧ ∀ j, j < N → isEnd P (runN P j s).1 = false
theorem Never.of_run {s : S} {c : Nat} (h : Never P (runN P c s)) (hb : ∀ j, j < c → isEnd P (runN P j s).1 = false) : Never P s := fun N => by
  by_cases q : N < c
  · exact hb N q
  · have := h (N - c)
    rwa [← runN_add, show c + (N - c) = N by omega] at this
theorem Never.run {s : S} (h : Never P s) (c : Nat) : Never P (runN P c s) := fun N => by
  rw [← runN_add]
  exact h _
theorem never_of_round (o : Ok P M) {s : S} {n : Nat} (r : IsRound P M s n) (hf : fallN P s n ≤ 0) (hn : needN P s n ≤ s.2) : Never P s := fun N => by
  obtain ⟨p, c⟩ := s
  have g := (o.rounds r (N + 1) fun i _ => by
    have : (i : Int) * fallN P (p, c) n ≤ 0 := Int.mul_nonpos_of_nonneg_of_nonpos (Int.natCast_nonneg i) hf
    have hn : needN P (p, c) n ≤ c := hn
    omega).1
  have h1 := r.pos
  exact g.notEnd (i := N) (by rw [Nat.succ_mul]; have : N * 1 ≤ N * n := Nat.mul_le_mul_left N h1; omega)
/-- what comes back never ends -/
theorem never_of_back {s : S} {a b : Nat} (hab : a < b) (e : runN P a s = runN P b s) (hb : ∀ j, j < b → isEnd P (runN P j s).1 = false) : Never P s := fun N => by
  induction N using Nat.strongRecOn with
  | ind N ih =>
    by_cases q : N < b
    · exact hb N q
    · have h1 : runN P N s = runN P (a + (N - b)) s := by
        rw [runN_add P a, e, ← runN_add, show b + (N - b) = N by omega]
      rw [h1]
      exact ih _ (by omega)
/-- no refusal and no end ever: from some time on a round that does not fall -/
theorem Ok.endless (o : Ok P M) {s : S} (hp : s.1 < P.length) (h0 : 0 ≤ s.2) (h : ∀ T, isEnd P (runN P T s).1 = false ∧ isRef P (runN P T s) = false) :
    ∃ i n, IsRound P M (runN P i s) n ∧ needN P (runN P i s) n ≤ (runN P i s).2 ∧ fallN P (runN P i s) n ≤ 0 := by
  have G : ∀ N, Good P N s := fun N => good_of_run fun i _ => h i
  obtain ⟨a, n, _, r⟩ := o.comes_round hp fun i _ => (G (i + 1) i (Nat.lt_succ_self i)).1
  rw [← (G a).run] at r
  have h2 : ∀ T, isEnd P (runN P T (runN P a s)).1 = false ∧ isRef P (runN P T (runN P a s)) = false := fun T => by
    rw [← runN_add]
    exact h _
  have G2 : ∀ N, Good P N (runN P a s) := fun N => good_of_run fun i _ => h2 i
  have nn := runN_nn (P := P) a h0
  refine ⟨a, n, r, good_need nn (G2 n), ?_⟩
  rcases ilt 0 (fallN P (runN P a s) n) with q | q
  · exfalso
    have e := o.frN_rounds r ((runN P a s).2.toNat + 1)
    rw [← (G2 _).run] at e
    have nn2 := runN_nn (P := P) (((runN P a s).2.toNat + 1) * n) nn
    rw [e] at nn2
    have nn2 : 0 ≤ (runN P a s).2 - (((runN P a s).2.toNat + 1 : Nat) : Int) * fallN P (runN P a s) n := nn2
    have q2 : (((runN P a s).2.toNat + 1 : Nat) : Int) * 1 ≤ (((runN P a s).2.toNat + 1 : Nat) : Int) * fallN P (runN P a s) n := Int.mul_le_mul_of_nonneg_left q (Int.natCast_nonneg _)
    omega
  · exact q
/-- how often a round is gone through -/
def tms (P : Pg) (s : S) (n : Nat) : Int := (s.2 - needN P s n) / fallN P s n + 1
theorem tms_le {s : S} {n : Nat} (hf : 0 < fallN P s n) (i : Nat) (hi : (i : Int) < tms P s n) : needN P s n ≤ s.2 - i * fallN P s n := by
  unfold tms at hi
  have h1 : (i : Int) ≤ (s.2 - needN P s n) / fallN P s n := by omega
  have h2 : (i : Int) * fallN P s n ≤ (s.2 - needN P s n) / fallN P s n * fallN P s n := Int.mul_le_mul_of_nonneg_right h1 (Int.le_of_lt hf)
  have h3 := Int.ediv_mul_le (s.2 - needN P s n) (Int.ne_of_gt hf)
  omega
theorem tms_pos {s : S} {n : Nat} (hf : 0 < fallN P s n) (hn : needN P s n ≤ s.2) : 1 ≤ tms P s n := by
  have := Int.ediv_nonneg (a := s.2 - needN P s n) (b := fallN P s n) (by omega) (Int.le_of_lt hf)
  unfold tms
  omega
/-- a jump over w rounds -/
theorem Ok.jump (o : Ok P M) {s : S} {n w : Nat} (r : IsRound P M s n) (hn : 1 ≤ w → needN P s n ≤ s.2) (hw : 0 < fallN P s n → (w : Int) ≤ tms P s n) : Good P (w * n) s ∧ runN P (w * n) s = (s.1, s.2 - w * fallN P s n) := by
  obtain ⟨p, c⟩ := s
  have g := o.rounds r w fun i hi => by
    rcases ilt 0 (fallN P (p, c) n) with q | q
    · exact tms_le q i (Int.lt_of_lt_of_le (Int.ofNat_lt.mpr hi) (hw q))
    · have : (i : Int) * fallN P (p, c) n ≤ 0 := Int.mul_nonpos_of_nonneg_of_nonpos (Int.natCast_nonneg i) q
      have hn : needN P (p, c) n ≤ c := hn (by omega)
      omega
  exact ⟨g.1, by rw [g.1.run]; exact g.2⟩

/-! ### the course -/
def CTerm (P : Pg) (M : Nat) (Post : Option (Nat × Nat) → Prop) : Nat → S → Nat → List (S × Nat) → Prop
  | 0, _, _, _ => False
  | m + 1, s, cnt, lows =>
    (isEnd P s.1 = true → Post (some (s.1, cnt))) ∧
    (isEnd P s.1 = false →
      (∀ n, IsRound P M s n → needN P s n ≤ s.2 → (fallN P s n ≤ 0 → Post none) ∧
        (0 < fallN P s n → CTerm P M Post m (s.1, s.2 - tms P s n * fallN P s n) (cnt + (tms P s n).toNat * n) lows)) ∧
      ((∀ n, IsRound P M s n → s.2 < needN P s n) →
        (isRef P s = true → (∀ c0, (s, c0) ∈ lows → Post none) ∧ ((∀ c0, ¬ (s, c0) ∈ lows) → CTerm P M Post m (step P s) (cnt + 1) (lows ++ [(s, cnt)]))) ∧
        (isRef P s = false → CTerm P M Post m (step P s) (cnt + 1) lows)))
def CPost (P : Pg) (s0 : S) : Option (Nat × Nat) → Prop
  | none => Never P s0
  | some (p, N) => HaltsAt P s0 N ∧ (runN P N s0).1 = p
structure CInv (P : Pg) (s0 s : S) (cnt : Nat) (lows : List (S × Nat)) : Prop where
  lt : s.1 < P.length
  nn : 0 ≤ s.2
  run : runN P cnt s0 = s
  noend : ∀ j, j < cnt → isEnd P (runN P j s0).1 = false
  low : ∀ x c0, (x, c0) ∈ lows → c0 < cnt ∧ runN P c0 s0 = x ∧ isRef P x = true ∧ x.1 < P.length ∧ 0 ≤ x.2
  nd : (lows.map (·.1)).Nodup
theorem Ok.ref_lt (o : Ok P M) {s : S} (h : isRef P s = true) : s.2 < 4 := by
  unfold isRef at h
  split at h
  · rename_i k to ot e
    have := o.st _ _ e
    have h2 := of_decide_eq_true h
    have := this.2.1
    omega
  · cases h
/-- a spot of a refused take as a number below 24 -/
def spot (s : S) : Nat := s.1 * 4 + s.2.toNat
theorem spots_le (L : Nat) (hL : L ≤ 6) (l : List S) (hn : l.Nodup) (h : ∀ x ∈ l, x.1 < L ∧ 0 ≤ x.2 ∧ x.2 < 4) : l.length ≤ 24 := by
  have q := nodup_lt 24 (l.map spot) ?_ fun x hx => ?_
  · rwa [List.length_map] at q
  · unfold List.Nodup
    rw [List.pairwise_map]
    refine List.Pairwise.imp_of_mem (fun {a b} ha hb hne e => hne ?_) hn
    obtain ⟨a1, a2, a3⟩ := h a ha
    obtain ⟨b1, b2, b3⟩ := h b hb
    unfold spot at e
    exact Prod.ext (by omega) (by omega)
  · obtain ⟨a, ha, rfl⟩ := List.mem_map.mp hx
    obtain ⟨a1, a2, a3⟩ := h a ha
    unfold spot
    omega
theorem Ok.lows_le (o : Ok P M) {s0 s : S} {cnt : Nat} {lows : List (S × Nat)} (I : CInv P s0 s cnt lows) : lows.length ≤ 24 := by
  have := spots_le P.length o.l6 (lows.map (·.1)) I.nd fun x hx => by
    obtain ⟨⟨y, c0⟩, hy, rfl⟩ := List.mem_map.mp hx
    obtain ⟨_, _, h3, h4, h5⟩ := I.low y c0 hy
    exact ⟨h4, h5, o.ref_lt h3⟩
  rwa [List.length_map] at this
theorem CInv.never {s0 s : S} {cnt : Nat} {lows : List (S × Nat)} (I : CInv P s0 s cnt lows) (h : Never P s) : Never P s0 := Never.of_run (c := cnt) (by rw [I.run]; exact h) I.noend
theorem ref_notEnd {s : S} (h : isRef P s = true) : isEnd P s.1 = false := by
  unfold isRef at h
  unfold isEnd
  split at h
  · rename_i e
    rw [e]
  · cases h
theorem CInv.step (o : Ok P M) {s0 s : S} {cnt : Nat} {lows : List (S × Nat)} (I : CInv P s0 s cnt lows) (he : isEnd P s.1 = false) : CInv P s0 (step P s) (cnt + 1) lows := by
  refine ⟨o.step_lt I.lt, step_nn I.nn, by rw [runN_succ, I.run], fun j hj => ?_, fun x c0 h => ?_, I.nd⟩
  · rcases Nat.lt_or_ge j cnt with q | q
    · exact I.noend j q
    · rw [show j = cnt by omega, I.run]; exact he
  · obtain ⟨h1, h2⟩ := I.low x c0 h
    exact ⟨Nat.lt_succ_of_lt h1, h2⟩
theorem CInv.jump (o : Ok P M) {s0 s : S} {cnt : Nat} {lows : List (S × Nat)} (I : CInv P s0 s cnt lows) {n w : Nat} (r : IsRound P M s n) (hn : 1 ≤ w → needN P s n ≤ s.2) (hw : 0 < fallN P s n → (w : Int) ≤ tms P s n) :
    CInv P s0 (s.1, s.2 - w * fallN P s n) (cnt + w * n) lows := by
  obtain ⟨g, e⟩ := o.jump r hn hw
  refine ⟨I.lt, by rw [← e]; exact runN_nn _ I.nn, by rw [runN_add, I.run, e], fun j hj => ?_, fun x c0 h => ?_, I.nd⟩
  · rcases Nat.lt_or_ge j cnt with q | q
    · exact I.noend j q
    · have := g.notEnd (i := j - cnt) (by omega)
      rwa [← I.run, ← runN_add, show cnt + (j - cnt) = j by omega] at this
  · obtain ⟨h1, h2⟩ := I.low x c0 h
    exact ⟨by omega, h2⟩
theorem CTerm.end_ {Post : Option (Nat × Nat) → Prop} {s : S} {cnt : Nat} {lows : List (S × Nat)} (he : isEnd P s.1 = true) (h : Post (some (s.1, cnt))) : CTerm P M Post 1 s cnt lows :=
  ⟨fun _ => h, fun z => by rw [he] at z; cases z⟩
theorem CTerm.round {Post : Option (Nat × Nat) → Prop} {m : Nat} {s : S} {cnt : Nat} {lows : List (S × Nat)} {n : Nat} (he : isEnd P s.1 = false) (r : IsRound P M s n) (hn : needN P s n ≤ s.2) (h1 : fallN P s n ≤ 0 → Post none)
    (h2 : 0 < fallN P s n → CTerm P M Post m (s.1, s.2 - tms P s n * fallN P s n) (cnt + (tms P s n).toNat * n) lows) : CTerm P M Post (m + 1) s cnt lows := by
  refine ⟨fun z => (by rw [he] at z; cases z), fun _ => ⟨fun k rk hk => ?_, fun z => ?_⟩⟩
  · rw [rk.uniq r]
    exact ⟨h1, h2⟩
  · have := z n r
    omega
theorem CTerm.stepR {Post : Option (Nat × Nat) → Prop} {m : Nat} {s : S} {cnt : Nat} {lows : List (S × Nat)} (hr : isRef P s = true) (hz : ∀ n, IsRound P M s n → s.2 < needN P s n) (h1 : ∀ c0, (s, c0) ∈ lows → Post none)
    (h2 : (∀ c0, ¬ (s, c0) ∈ lows) → CTerm P M Post m (K53M.step P s) (cnt + 1) (lows ++ [(s, cnt)])) : CTerm P M Post (m + 1) s cnt lows := by
  refine ⟨fun z => (by rw [ref_notEnd hr] at z; cases z), fun _ => ⟨fun k rk hk => ?_, fun _ => ⟨fun _ => ⟨h1, h2⟩, fun z => (by rw [hr] at z; cases z)⟩⟩⟩
  have := hz k rk
  omega
theorem CTerm.stepN {Post : Option (Nat × Nat) → Prop} {m : Nat} {s : S} {cnt : Nat} {lows : List (S × Nat)} (he : isEnd P s.1 = false) (hr : isRef P s = false) (hz : ∀ n, IsRound P M s n → s.2 < needN P s n)
    (h : CTerm P M Post m (K53M.step P s) (cnt + 1) lows) : CTerm P M Post (m + 1) s cnt lows := by
  refine ⟨fun z => (by rw [he] at z; cases z), fun _ => ⟨fun k rk hk => ?_, fun _ => ⟨fun z => (by rw [hr] at z; cases z), fun _ => h⟩⟩⟩
  have := hz k rk
  omega
/-- one turn, where the way has a last time ahead -/
theorem Ok.cturn (o : Ok P M) {s0 s : S} {cnt : Nat} {lows : List (S × Nat)} (I : CInv P s0 s cnt lows)
    (hR : isRef P s = true → (∀ c0, ¬ (s, c0) ∈ lows) → ∃ m, CTerm P M (CPost P s0) m (step P s) (cnt + 1) (lows ++ [(s, cnt)]))
    (hS : isEnd P s.1 = false → isRef P s = false → (∀ n, IsRound P M s n → s.2 < needN P s n) → ∃ m, CTerm P M (CPost P s0) m (step P s) (cnt + 1) lows)
    (hJ : ∀ n, IsRound P M s n → needN P s n ≤ s.2 → 0 < fallN P s n → ∃ m, CTerm P M (CPost P s0) m (s.1, s.2 - tms P s n * fallN P s n) (cnt + (tms P s n).toNat * n) lows) : ∃ m, CTerm P M (CPost P s0) m s cnt lows := by
  cases he : isEnd P s.1 with
  | true => exact ⟨1, CTerm.end_ he ⟨⟨by rw [I.run]; exact he, I.noend⟩, by rw [I.run]⟩⟩
  | false =>
    by_cases hz : ∃ n, IsRound P M s n ∧ needN P s n ≤ s.2
    · obtain ⟨n, r, hn⟩ := hz
      rcases ilt 0 (fallN P s n) with q | q
      · obtain ⟨m, hm⟩ := hJ n r hn q
        exact ⟨m + 1, CTerm.round he r hn (fun z => by omega) fun _ => hm⟩
      · exact ⟨1, CTerm.round (m := 0) he r hn (fun _ => I.never (never_of_round o r q hn)) fun z => by omega⟩
    · have hz2 : ∀ n, IsRound P M s n → s.2 < needN P s n := fun n r => by
        rcases ilt s.2 (needN P s n) with q | q
        · exact q
        · exact absurd ⟨n, r, q⟩ hz
      cases hr : isRef P s with
      | false =>
        obtain ⟨m, hm⟩ := hS he hr hz2
        exact ⟨m + 1, CTerm.stepN he hr hz2 hm⟩
      | true =>
        have back : ∀ c0, (s, c0) ∈ lows → CPost P s0 none := fun c0 h => by
          obtain ⟨h1, h2, _⟩ := I.low s c0 h
          exact never_of_back h1 (by rw [h2, I.run]) I.noend
        by_cases hin : ∃ c0, (s, c0) ∈ lows
        · obtain ⟨c0, hc⟩ := hin
          exact ⟨1, CTerm.stepR (m := 0) hr hz2 back fun z => absurd hc (z c0)⟩
        · obtain ⟨m, hm⟩ := hR hr fun c0 hc => hin ⟨c0, hc⟩
          exact ⟨m + 1, CTerm.stepR hr hz2 back fun _ => hm⟩
theorem CInv.snoc (o : Ok P M) {s0 s : S} {cnt : Nat} {lows : List (S × Nat)} (I : CInv P s0 s cnt lows) (hr : isRef P s = true) (hn : ∀ c0, ¬ (s, c0) ∈ lows) : CInv P s0 (K53M.step P s) (cnt + 1) (lows ++ [(s, cnt)]) := by
  have J := I.step o (ref_notEnd hr)
  refine ⟨J.lt, J.nn, J.run, J.noend, fun x c0 h => ?_, ?_⟩
  · rcases List.mem_append.mp h with q | q
    · exact J.low x c0 q
    · obtain ⟨rfl, rfl⟩ := Prod.mk.inj (List.mem_singleton.mp q)
      exact ⟨Nat.lt_succ_self _, I.run, hr, I.lt, I.nn⟩
  · rw [List.map_append, List.nodup_append]
    refine ⟨I.nd, by simp, fun a ha b hb => ?_⟩
    have e : b = s := by simpa using hb
    subst e
    rintro rfl
    obtain ⟨⟨y, c0⟩, hy, hye⟩ := List.mem_map.mp ha
    have hye : y = a := hye
    subst hye
    exact hn c0 hy
theorem Ok.course_term (o : Ok P M) (s0 : S) : ∀ (k : Nat) (s : S) (cnt : Nat) (lows : List (S × Nat)), CInv P s0 s cnt lows → 24 < lows.length + k → ∃ m, CTerm P M (CPost P s0) m s cnt lows
  | 0, s, cnt, lows, I, h => by
    have := o.lows_le I
    omega
  | k + 1, s, cnt, lows, I, hk => by
    have hR : ∀ {s : S} {cnt : Nat}, CInv P s0 s cnt lows → isRef P s = true → (∀ c0, ¬ (s, c0) ∈ lows) → ∃ m, CTerm P M (CPost P s0) m (step P s) (cnt + 1) (lows ++ [(s, cnt)]) := fun {s cnt} I hr hn =>
      o.course_term s0 k _ _ _ (I.snoc o hr hn) (by rw [List.length_append, List.length_singleton]; omega)
    have tn : ∀ {s : S} {n : Nat}, needN P s n ≤ s.2 → 0 < fallN P s n → (((tms P s n).toNat : Nat) : Int) = tms P s n ∧ 1 ≤ (tms P s n).toNat := fun {s n} hn hf => by
      have := tms_pos hf hn
      omega
    by_cases hT : ∃ T, isEnd P (runN P T s).1 = true ∨ isRef P (runN P T s) = true
    · obtain ⟨T, hT⟩ := hT
      induction T using Nat.strongRecOn generalizing s cnt with
      | ind T ih =>
        refine o.cturn I (hR I) (fun he hr hz => ?_) fun n r hn hf => ?_
        · have hT0 : T ≠ 0 := by
            rintro rfl
            rcases hT with q | q
            · have q : isEnd P s.1 = true := q
              rw [he] at q; cases q
            · have q : isRef P s = true := q
              rw [hr] at q; cases q
          refine ih (T - 1) (by omega) (step P s) (cnt + 1) (I.step o he) ?_
          have e : runN P (T - 1) (step P s) = runN P T s := by
            conv => rhs; rw [show T = (T - 1) + 1 by omega]
            rfl
          rw [e]
          exact hT
        · obtain ⟨t1, t2⟩ := tn hn hf
          have J := I.jump o r (w := (tms P s n).toNat) (fun _ => hn) (fun _ => by omega)
          obtain ⟨g, e⟩ := o.jump r (w := (tms P s n).toNat) (fun _ => hn) (fun _ => by omega)
          rw [t1] at J e
          have hle : (tms P s n).toNat * n ≤ T := by
            rcases Nat.lt_or_ge T ((tms P s n).toNat * n) with q | q
            · exfalso
              rcases hT with z | z
              · rw [g.notEnd q] at z; cases z
              · rw [g.notRef q] at z; cases z
            · exact q
          have hpos : 1 ≤ (tms P s n).toNat * n := by
            have := Nat.mul_le_mul t2 r.pos
            omega
          refine ih (T - (tms P s n).toNat * n) (by omega) _ _ J ?_
          rw [← e, ← runN_add, show (tms P s n).toNat * n + (T - (tms P s n).toNat * n) = T by omega]
          exact hT
    · have hn : ∀ T, isEnd P (runN P T s).1 = false ∧ isRef P (runN P T s) = false := fun T => by
        refine ⟨?_, ?_⟩
        · cases q : isEnd P (runN P T s).1 with
          | false => rfl
          | true => exact absurd ⟨T, .inl q⟩ hT
        · cases q : isRef P (runN P T s) with
          | false => rfl
          | true => exact absurd ⟨T, .inr q⟩ hT
      obtain ⟨i, n0, r0, hn0, hf0⟩ := o.endless I.lt I.nn hn
      clear hT
      induction i generalizing s cnt with
      | zero =>
        exact ⟨1, CTerm.round (m := 0) (hn 0).1 r0 hn0 (fun _ => I.never (never_of_round o r0 hf0 hn0)) fun z => by
          have hf0 : fallN P s n0 ≤ 0 := hf0
          omega⟩
      | succ i ih =>
        refine o.cturn I (fun hr _ => by have := (hn 0).2; rw [show runN P 0 s = s from rfl, hr] at this; cases this) (fun he hr hz => ?_) fun n r hnn hf => ?_
        · exact ih (step P s) (cnt + 1) (I.step o he) (fun T => hn (T + 1)) r0 hn0 hf0
        · exfalso
          have G : ∀ N, Good P N s := fun N => good_of_run fun i _ => hn i
          have e := o.frN_rounds r (s.2.toNat + 1)
          rw [← (G _).run] at e
          have nn2 := runN_nn (P := P) ((s.2.toNat + 1) * n) I.nn
          rw [e] at nn2
          have nn2 : 0 ≤ s.2 - ((s.2.toNat + 1 : Nat) : Int) * fallN P s n := nn2
          have q2 : ((s.2.toNat + 1 : Nat) : Int) * 1 ≤ ((s.2.toNat + 1 : Nat) : Int) * fallN P s n := Int.mul_le_mul_of_nonneg_left hf (Int.natCast_nonneg _)
          have := I.nn
          omega
/-- THE COURSE: from any place and number the loop comes to an end, and tells what is -/
theorem Ok.course (o : Ok P M) {s : S} (hp : s.1 < P.length) (h0 : 0 ≤ s.2) : ∃ m, CTerm P M (CPost P s) m s 0 [] :=
  o.course_term s 25 s 0 [] ⟨hp, h0, rfl, fun j hj => absurd hj (Nat.not_lt_zero j), fun x c0 h => absurd h (by simp), by simp⟩ (by simp)
end
end K53M
end

section
set_option linter.all false
set_option autoImplicit false
/-! K53M, part 3: going far; the law's own run comes to its end within 5712 turns. -/
namespace K53M
section
variable {P : Pg} {M : Nat}
/-! ### go_far -/
structure GInv (P : Pg) (tgt s : S) (left : Nat) (seen : List (S × Nat)) (cut : Bool) : Prop where
  lt : s.1 < P.length
  nn : 0 ≤ s.2
  run : runN P left s = tgt
  seen : cut = false → ∀ x l0, (x, l0) ∈ seen → left < l0 ∧ runN P (l0 - left) x = s
theorem GInv.done {tgt s : S} {left : Nat} {seen : List (S × Nat)} {cut : Bool} (I : GInv P tgt s left seen cut) (h : left = 0 ∨ isEnd P s.1 = true) : s = tgt := by
  rcases h with h | h
  · have := I.run
    rw [h] at this
    exact this
  · rw [← I.run, runN_end h]
theorem GInv.jump (o : Ok P M) {tgt s : S} {left n w : Nat} {seen : List (S × Nat)} {cut : Bool} (I : GInv P tgt s left seen cut) (r : IsRound P M s n) (hn : 1 ≤ w → needN P s n ≤ s.2) (hw : 0 < fallN P s n → (w : Int) ≤ tms P s n) (hl : w * n ≤ left) :
    GInv P tgt (s.1, s.2 - w * fallN P s n) (left - w * n) seen cut := by
  obtain ⟨g, e⟩ := o.jump r hn hw
  refine ⟨I.lt, by rw [← e]; exact runN_nn _ I.nn, ?_, fun hc x l0 h => ?_⟩
  · rw [← e, ← runN_add, show w * n + (left - w * n) = left by omega]
    exact I.run
  · obtain ⟨h1, h2⟩ := I.seen hc x l0 h
    refine ⟨by omega, ?_⟩
    rw [← e, ← h2, ← runN_add, show l0 - left + w * n = l0 - (left - w * n) by omega]
theorem GInv.stepG (o : Ok P M) {tgt s : S} {left : Nat} {seen : List (S × Nat)} {cut : Bool} (I : GInv P tgt s left seen cut) (hl : 0 < left) : GInv P tgt (K53M.step P s) (left - 1) seen cut := by
  refine ⟨o.step_lt I.lt, step_nn I.nn, ?_, fun hc x l0 h => ?_⟩
  · have := I.run
    rw [show left = (left - 1) + 1 by omega] at this
    exact this
  · obtain ⟨h1, h2⟩ := I.seen hc x l0 h
    refine ⟨by omega, ?_⟩
    rw [← h2, show l0 - (left - 1) = (l0 - left) + 1 by omega, runN_succ]
theorem GInv.snoc (o : Ok P M) {tgt s : S} {left : Nat} {seen : List (S × Nat)} (I : GInv P tgt s left seen false) (hl : 0 < left) : GInv P tgt (K53M.step P s) (left - 1) (seen ++ [(s, left)]) false := by
  have J := I.stepG o hl
  refine ⟨J.lt, J.nn, J.run, fun _ x l0 h => ?_⟩
  rcases List.mem_append.mp h with q | q
  · exact J.seen rfl x l0 q
  · obtain ⟨rfl, rfl⟩ := Prod.mk.inj (List.mem_singleton.mp q)
    refine ⟨by omega, ?_⟩
    rw [show l0 - (l0 - 1) = 1 by omega]
    rfl
theorem runN_back {q : S} {L : Nat} (e : runN P L q = q) : ∀ k, runN P (L * k) q = q
  | 0 => rfl
  | k + 1 => by
    rw [Nat.mul_succ, runN_add, runN_back e k, e]
theorem GInv.cut (o : Ok P M) {tgt s : S} {left l0 : Nat} {seen : List (S × Nat)} (I : GInv P tgt s left seen false) (h : (s, l0) ∈ seen) : left < l0 ∧ GInv P tgt s (left % (l0 - left)) seen true := by
  obtain ⟨h1, h2⟩ := I.seen rfl s l0 h
  refine ⟨h1, I.lt, I.nn, ?_, fun z => by cases z⟩
  rw [← I.run]
  conv => rhs; rw [← Nat.div_add_mod left (l0 - left), runN_add, runN_back h2]

/-! ### the law's own run -/
/-- how often it goes through a round -/
def lw (P : Pg) (s : S) (n left : Nat) : Int := if 0 < fallN P s n then max 0 (min (((left / n : Nat)) : Int) (tms P s n)) else ((left / n : Nat) : Int)
def keyN (M : Nat) (s : S) : Nat × Int := (s.1, s.2 % (M : Int))
def LTerm (P : Pg) (M count : Nat) (Post : S → Nat → Prop) : Nat → S → Nat → List (Nat × Int) → List (S × Nat) → Prop
  | 0, _, _, _, _ => False
  | m + 1, s, g, seen, low =>
    (g = count ∨ isEnd P s.1 = true → Post s g) ∧
    (g < count → isEnd P s.1 = false →
      (keyN M s ∈ seen → ∃ n, n ≤ 36 ∧ IsRound P M s n ∧ (fallN P s n ≤ 0 → needN P s n ≤ s.2) ∧ LTerm P M count Post m (s.1, s.2 - lw P s n (count - g) * fallN P s n) (g + (lw P s n (count - g)).toNat * n) [] low) ∧
      (¬ keyN M s ∈ seen →
        (isRef P s = false → LTerm P M count Post m (step P s) (g + 1) (seen ++ [keyN M s]) low) ∧
        (isRef P s = true →
          (∀ g0, (step P s, g0) ∈ low → g0 < g + 1 ∧ LTerm P M count Post m (step P s) (g + 1 + (count - (g + 1)) / (g + 1 - g0) * (g + 1 - g0)) [] []) ∧
          ((∀ g0, ¬ (step P s, g0) ∈ low) → LTerm P M count Post m (step P s) (g + 1) [] (low ++ [(step P s, g + 1)])))))
theorem LTerm.mono {count : Nat} {Post : S → Nat → Prop} : ∀ {m : Nat} {s : S} {g : Nat} {seen : List (Nat × Int)} {low : List (S × Nat)}, LTerm P M count Post m s g seen low → LTerm P M count Post (m + 1) s g seen low
  | 0, _, _, _, _, h => h.elim
  | m + 1, s, g, seen, low, ⟨h1, h2⟩ => by
    refine ⟨h1, fun a b => ⟨fun k => ?_, fun k => ⟨fun r => ?_, fun r => ⟨fun g0 h => ?_, fun h => ?_⟩⟩⟩⟩
    · obtain ⟨n, a1, a2, a3, a4⟩ := (h2 a b).1 k
      exact ⟨n, a1, a2, a3, a4.mono⟩
    · exact (((h2 a b).2 k).1 r).mono
    · obtain ⟨a1, a2⟩ := (((h2 a b).2 k).2 r).1 g0 h
      exact ⟨a1, a2.mono⟩
    · exact ((((h2 a b).2 k).2 r).2 h).mono
theorem LTerm.le {count : Nat} {Post : S → Nat → Prop} {s : S} {g : Nat} {seen : List (Nat × Int)} {low : List (S × Nat)} {m k : Nat} (h : LTerm P M count Post m s g seen low) (hk : m ≤ k) : LTerm P M count Post k s g seen low := by
  induction k with
  | zero => rw [Nat.le_zero.mp hk] at h; exact h
  | succ k ih =>
    rcases Nat.lt_or_ge m (k + 1) with q | q
    · exact (ih (Nat.le_of_lt_succ q)).mono
    · rw [Nat.le_antisymm hk q] at h; exact h
/-- what holds whatever stands in the tables -/
structure LInv (P : Pg) (s0 : S) (count : Nat) (s : S) (g : Nat) : Prop where
  lt : s.1 < P.length
  nn : 0 ≤ s.2
  gle : g ≤ count
  run : runN P g s0 = s
  noend : ∀ j, j < g → isEnd P (runN P j s0).1 = false
theorem LInv.step (o : Ok P M) {s0 s : S} {count g : Nat} (I : LInv P s0 count s g) (hg : g < count) (he : isEnd P s.1 = false) : LInv P s0 count (step P s) (g + 1) := by
  refine ⟨o.step_lt I.lt, step_nn I.nn, hg, by rw [runN_succ, I.run], fun j hj => ?_⟩
  rcases Nat.lt_or_ge j g with q | q
  · exact I.noend j q
  · rw [show j = g by omega, I.run]; exact he
theorem LInv.go {s0 s : S} {count g w : Nat} (I : LInv P s0 count s g) (hw : g + w ≤ count) (hp : (runN P w s).1 < P.length) (gd : ∀ j, j < w → isEnd P (runN P j s).1 = false) : LInv P s0 count (runN P w s) (g + w) := by
  refine ⟨hp, runN_nn _ I.nn, hw, by rw [runN_add, I.run], fun j hj => ?_⟩
  rcases Nat.lt_or_ge j g with q | q
  · exact I.noend j q
  · have := gd (j - g) (by omega)
    rwa [← I.run, ← runN_add, show g + (j - g) = j by omega] at this
def LPost (P : Pg) (s0 : S) (count : Nat) (s : S) (g : Nat) : Prop := LInv P s0 count s g ∧ (g = count ∨ isEnd P s.1 = true)
/-- the table of begins gone through since the last refusal -/
structure SInv (P : Pg) (M : Nat) (s : S) (seen : List (Nat × Int)) : Prop where
  nd : seen.Nodup
  ok : ∀ k ∈ seen, k.1 < P.length ∧ 0 ≤ k.2 ∧ k.2 < M
  back : ∀ k ∈ seen, ∃ x j, 1 ≤ j ∧ j ≤ seen.length ∧ keyN M x = k ∧ 0 ≤ x.2 ∧ Good P j x ∧ runN P j x = s
theorem SInv.nil {s : S} : SInv P M s [] := ⟨by simp, fun k h => absurd h (by simp), fun k h => absurd h (by simp)⟩
theorem SInv.len (o : Ok P M) {s : S} {seen : List (Nat × Int)} (I : SInv P M s seen) : seen.length ≤ 36 := by
  have q := nodup_lt (P.length * M) (seen.map fun k => k.1 * M + k.2.toNat) ?_ fun x hx => ?_
  · rw [List.length_map] at q
    exact Nat.le_trans q o.le36
  · unfold List.Nodup
    rw [List.pairwise_map]
    refine List.Pairwise.imp_of_mem (fun {a b} ha hb hne e => hne ?_) I.nd
    obtain ⟨a1, a2, a3⟩ := I.ok a ha
    obtain ⟨b1, b2, b3⟩ := I.ok b hb
    have hd : ∀ p x : Nat, x < M → (p * M + x) / M = p := fun p x hx => by
      rw [Nat.mul_comm, Nat.mul_add_div (by omega), Nat.div_eq_of_lt hx, Nat.add_zero]
    have e1 : a.1 = b.1 := by
      have q1 := hd a.1 a.2.toNat (by omega)
      have q2 := hd b.1 b.2.toNat (by omega)
      rw [e] at q1
      omega
    rw [e1] at e
    exact Prod.ext e1 (by omega)
  · obtain ⟨a, ha, rfl⟩ := List.mem_map.mp hx
    obtain ⟨a1, a2, a3⟩ := I.ok a ha
    have a4 : (a.1 + 1) * M ≤ P.length * M := Nat.mul_le_mul_right M a1
    rw [Nat.succ_mul] at a4
    omega
theorem key_beg {a b : S} (h : keyN M a = keyN M b) : Beg M a b := by
  obtain ⟨h1, h2⟩ := Prod.mk.inj (show (a.1, a.2 % (M : Int)) = (b.1, b.2 % (M : Int)) from h)
  exact ⟨h1, Int.dvd_of_emod_eq_zero (by rw [Int.sub_emod, h2, Int.sub_self]; rfl)⟩
theorem SInv.snoc (o : Ok P M) {s : S} {seen : List (Nat × Int)} (I : SInv P M s seen) (hp : s.1 < P.length) (h0 : 0 ≤ s.2) (he : isEnd P s.1 = false) (hr : isRef P s = false) (hk : ¬ keyN M s ∈ seen) : SInv P M (step P s) (seen ++ [keyN M s]) := by
  have m1 := o.m1
  have g1 : Good P 1 s := fun i hi => by
    rw [show i = 0 by omega]
    exact ⟨he, hr⟩
  refine ⟨?_, fun k h => ?_, fun k h => ?_⟩
  · rw [List.nodup_append]
    refine ⟨I.nd, by simp, fun a ha b hb => ?_⟩
    have e : b = keyN M s := by simpa using hb
    subst e
    rintro rfl
    exact hk ha
  · rcases List.mem_append.mp h with q | q
    · exact I.ok k q
    · rw [List.mem_singleton.mp q]
      exact ⟨hp, Int.emod_nonneg _ (by omega), Int.emod_lt_of_pos _ (by omega)⟩
  · rw [List.length_append, List.length_singleton]
    rcases List.mem_append.mp h with q | q
    · obtain ⟨x, j, h1, h2, h3, h4, h5, h6⟩ := I.back k q
      refine ⟨x, j + 1, by omega, by omega, h3, h4, h5.add ?_, by rw [runN_succ, h6]⟩
      rw [← h5.run, h6]
      exact g1
    · exact ⟨s, 1, Nat.le_refl _, by omega, (List.mem_singleton.mp q).symm, h0, g1, rfl⟩
/-- a begin that comes again: its round -/
theorem SInv.round (o : Ok P M) {s : S} {seen : List (Nat × Int)} (I : SInv P M s seen) (hk : keyN M s ∈ seen) : ∃ n, n ≤ 36 ∧ IsRound P M s n ∧ (fallN P s n ≤ 0 → needN P s n ≤ s.2) := by
  obtain ⟨x, j, h1, h2, h3, h4, h5, h6⟩ := I.back _ hk
  have bg : Beg M s x := key_beg h3.symm
  have e6 : frN P j x = s := by rw [← h5.run]; exact h6
  obtain ⟨n, hn, r⟩ := first_round (P := P) (M := M) (s := x) (j := j) h1 (fun i hi => (h5 i hi).1) (by rw [e6]; exact bg)
  refine ⟨n, Nat.le_trans hn (Nat.le_trans h2 (I.len o)), o.round_beg bg r, fun hf => ?_⟩
  rw [o.needN_beg bg]
  rw [o.fallN_beg bg] at hf
  have hnd := good_need h4 (h5.le hn)
  -- so many rounds lie between
  have e7 : j % n = 0 := by
    have hmod : j % n < n := Nat.mod_lt _ r.pos
    rcases Nat.eq_zero_or_pos (j % n) with q | q
    · exact q
    · exfalso
      have e8 : frN P (j % n) (frN P (n * (j / n)) x) = s := by
        rw [← frN_add, Nat.div_add_mod, e6]
      have b2 : Beg M (frN P (n * (j / n)) x) x := by
        rw [Nat.mul_comm, o.frN_rounds r]
        exact ⟨rfl, by
          show (M : Int) ∣ x.2 - ((j / n : Nat) : Int) * fallN P x n - x.2
          rw [show x.2 - ((j / n : Nat) : Int) * fallN P x n - x.2 = -(((j / n : Nat) : Int) * fallN P x n) by omega]
          exact Int.dvd_neg.mpr (Int.dvd_mul_of_dvd_right r.ret.symm.2)⟩
      have b3 := (o.beg_frN b2 (j % n)).symm
      rw [e8] at b3
      exact r.first (j % n) q hmod (b3.trans bg)
  have e9 := o.frN_rounds r (j / n)
  rw [Nat.mul_comm, show n * (j / n) = j by have := Nat.div_add_mod j n; omega, e6] at e9
  have e10 : s.2 = x.2 - ((j / n : Nat) : Int) * fallN P x n := by rw [e9]
  have : ((j / n : Nat) : Int) * fallN P x n ≤ 0 := Int.mul_nonpos_of_nonneg_of_nonpos (Int.natCast_nonneg _) hf
  omega
/-- something stops it within d steps -/
def Stop (P : Pg) (count : Nat) (s : S) (g d : Nat) : Prop := count ≤ g + d ∨ ∃ j, j < d ∧ (isEnd P (runN P j s).1 = true ∨ isRef P (runN P j s) = true)
/-- behind a jump over rounds -/
theorem Ok.lwGo (o : Ok P M) {s0 s : S} {count g n : Nat} (I : LInv P s0 count s g) (hg : g < count) (r : IsRound P M s n) (hf : fallN P s n ≤ 0 → needN P s n ≤ s.2) :
    LInv P s0 count (s.1, s.2 - lw P s n (count - g) * fallN P s n) (g + (lw P s n (count - g)).toNat * n) ∧ Stop P count (s.1, s.2 - lw P s n (count - g) * fallN P s n) (g + (lw P s n (count - g)).toNat * n) n ∧
      0 ≤ lw P s n (count - g) ∧ Good P ((lw P s n (count - g)).toNat * n) s ∧ runN P ((lw P s n (count - g)).toNat * n) s = (s.1, s.2 - lw P s n (count - g) * fallN P s n) := by
  have w0 : 0 ≤ lw P s n (count - g) := by
    unfold lw
    split
    · exact Int.le_max_left _ _
    · exact Int.natCast_nonneg _
  have wl : lw P s n (count - g) ≤ (((count - g) / n : Nat) : Int) := by
    unfold lw
    split
    · exact Int.max_le.mpr ⟨Int.natCast_nonneg _, Int.min_le_left _ _⟩
    · exact Int.le_refl _
  have hdn : (lw P s n (count - g)).toNat * n ≤ count - g := by
    have h1 : (lw P s n (count - g)).toNat ≤ (count - g) / n := by omega
    exact Nat.le_trans (Nat.mul_le_mul_right n h1) (Nat.div_mul_le_self _ _)
  have wt : (((lw P s n (count - g)).toNat : Nat) : Int) = lw P s n (count - g) := Int.toNat_of_nonneg w0
  have jn : 1 ≤ (lw P s n (count - g)).toNat → needN P s n ≤ s.2 := fun h => by
    rcases ilt 0 (fallN P s n) with q | q
    · have h1 : 1 ≤ lw P s n (count - g) := by omega
      unfold lw at h1
      rw [if_pos q] at h1
      have h2 : 0 < tms P s n := by
        rcases Int.le_total (tms P s n) 0 with z | z
        · rw [Int.max_eq_left (Int.le_trans (Int.min_le_right _ _) z)] at h1
          omega
        · rcases Int.lt_or_eq_of_le z with y | y
          · exact y
          · rw [← y, Int.max_eq_left (Int.min_le_right _ _)] at h1
            omega
      have := tms_le q 0 (by simpa using h2)
      simpa using this
    · exact hf q
  have jw : 0 < fallN P s n → (((lw P s n (count - g)).toNat : Nat) : Int) ≤ tms P s n ∨ (lw P s n (count - g)).toNat = 0 := fun q => by
    rw [wt]
    unfold lw
    rw [if_pos q]
    rcases Int.le_total 0 (min (((count - g) / n : Nat) : Int) (tms P s n)) with z | z
    · rw [Int.max_eq_right z]
      exact .inl (Int.min_le_right _ _)
    · rw [Int.max_eq_left z]
      exact .inr rfl
  have J : Good P ((lw P s n (count - g)).toNat * n) s ∧ runN P ((lw P s n (count - g)).toNat * n) s = (s.1, s.2 - lw P s n (count - g) * fallN P s n) := by
    by_cases q0 : (lw P s n (count - g)).toNat = 0
    · rw [q0, Nat.zero_mul]
      refine ⟨fun i hi => absurd hi (Nat.not_lt_zero i), ?_⟩
      have : lw P s n (count - g) = 0 := by omega
      rw [this, Int.zero_mul, Int.sub_zero]
      rfl
    · have := o.jump r jn (w := (lw P s n (count - g)).toNat) (fun q => (jw q).resolve_right q0)
      rw [wt] at this
      exact this
  obtain ⟨gd, e⟩ := J
  refine ⟨?_, ?_, w0, gd, e⟩
  · have := I.go (w := (lw P s n (count - g)).toNat * n) (by omega) (by rw [e]; exact I.lt) fun j hj => gd.notEnd hj
    rw [e] at this
    exact this
  · have hmod : count - g < (count - g) / n * n + n := by
      have h1 := Nat.div_add_mod (count - g) n
      have h2 := Nat.mod_lt (count - g) r.pos
      rw [Nat.mul_comm] at h1
      omega
    rcases ilt 0 (fallN P s n) with q | q
    · by_cases hz : (lw P s n (count - g)).toNat = (count - g) / n
      · left
        rw [hz]
        omega
      · right
        -- too little counter is left
        have hlt : s.2 - lw P s n (count - g) * fallN P s n < needN P s n := by
          have hw : lw P s n (count - g) < (((count - g) / n : Nat) : Int) := by omega
          have ht : tms P s n ≤ lw P s n (count - g) := by
            unfold lw at hw ⊢
            rw [if_pos q] at hw ⊢
            rcases Int.le_total (((count - g) / n : Nat) : Int) (tms P s n) with z | z
            · rw [Int.min_eq_left z, Int.max_eq_right (Int.natCast_nonneg _)] at hw
              omega
            · rw [Int.min_eq_right z]
              exact Int.le_max_right _ _
          have h1 : tms P s n * fallN P s n ≤ lw P s n (count - g) * fallN P s n := Int.mul_le_mul_of_nonneg_right ht (Int.le_of_lt q)
          have h2 : s.2 - needN P s n < tms P s n * fallN P s n := by
            unfold tms
            rw [Int.add_mul, Int.one_mul]
            have := Int.lt_ediv_add_one_mul_self (s.2 - needN P s n) q
            rw [Int.add_mul, Int.one_mul] at this
            exact this
          omega
        have bg : Beg M (s.1, s.2 - lw P s n (count - g) * fallN P s n) s := ⟨rfl, by
          show (M : Int) ∣ s.2 - lw P s n (count - g) * fallN P s n - s.2
          rw [show s.2 - lw P s n (count - g) * fallN P s n - s.2 = -(lw P s n (count - g) * fallN P s n) by omega]
          exact Int.dvd_neg.mpr (Int.dvd_mul_of_dvd_right r.ret.symm.2)⟩
        have nn2 : 0 ≤ (s.1, s.2 - lw P s n (count - g) * fallN P s n).2 := by rw [← e]; exact runN_nn _ I.nn
        refine Classical.byContradiction fun hno => ?_
        have gg : Good P n (s.1, s.2 - lw P s n (count - g) * fallN P s n) := good_of_run fun i hi => by
          refine ⟨?_, ?_⟩
          · cases z : isEnd P (runN P i (s.1, s.2 - lw P s n (count - g) * fallN P s n)).1 with
            | false => rfl
            | true => exact absurd ⟨i, hi, .inl z⟩ hno
          · cases z : isRef P (runN P i (s.1, s.2 - lw P s n (count - g) * fallN P s n)) with
            | false => rfl
            | true => exact absurd ⟨i, hi, .inr z⟩ hno
        have h9 := good_need nn2 gg
        rw [o.needN_beg bg] at h9
        have h9 : needN P s n ≤ s.2 - lw P s n (count - g) * fallN P s n := h9
        omega
    · left
      have : (lw P s n (count - g)).toNat = (count - g) / n := by
        unfold lw
        rw [if_neg (by omega)]
        exact Int.toNat_natCast _
      rw [this]
      omega
end
end K53M
end

section
set_option linter.all false
set_option autoImplicit false
/-! K53M, part 4: the law's own run comes to its end within 5712 turns, and what it hands back. -/
namespace K53M
section
variable {P : Pg} {M : Nat}
/-- the table of refused takes' spots, in either of its two phases -/
structure LowInv (P : Pg) (s0 : S) (g : Nat) (low : List (S × Nat)) : Prop where
  nd : (low.map (·.1)).Nodup
  ok : ∀ x g0, (x, g0) ∈ low → 1 ≤ g0 ∧ g0 ≤ g ∧ runN P g0 s0 = x ∧ x.1 < P.length ∧ 0 ≤ x.2 ∧ x.2 < 4
  only : ∀ x g0, (x, g0) ∈ low → ∀ t, g0 < t → t ≤ g → isRef P (runN P (t - 1) s0) = true → runN P t s0 ≠ x
/-- phase one: no ring was met (rb refusals may come); phase two: behind a ring of L steps at q, begun at g1 -/
def Phase (P : Pg) (s0 : S) (count g rb : Nat) (low : List (S × Nat)) : Prop :=
  rb + low.length = 50 ∨
  (rb + low.length = 25 ∧ ∃ (g1 L : Nat) (q : S), g1 ≤ g ∧ runN P g1 s0 = q ∧ 1 ≤ L ∧ runN P L q = q ∧ isRef P (runN P (L - 1) q) = true ∧ count < g1 + L ∧
    (∀ a, 0 < a → a < L → isRef P (runN P (a - 1) q) = true → runN P a q ≠ q) ∧ ∀ x g0, (x, g0) ∈ low → g1 ≤ g0)
theorem LowInv.nil {s0 : S} {g : Nat} : LowInv P s0 g [] := ⟨by simp, fun _ _ h => absurd h (by simp), fun _ _ h => absurd h (by simp)⟩
theorem LowInv.len (o : Ok P M) {s0 : S} {g : Nat} {low : List (S × Nat)} (I : LowInv P s0 g low) : low.length ≤ 24 := by
  have := spots_le P.length o.l6 (low.map (·.1)) I.nd fun x hx => by
    obtain ⟨⟨y, c0⟩, hy, rfl⟩ := List.mem_map.mp hx
    exact (I.ok y c0 hy).2.2.2
  rwa [List.length_map] at this
/-- no refusal in between -/
theorem LowInv.go {s0 s : S} {g w : Nat} {low : List (S × Nat)} (I : LowInv P s0 g low) (e : runN P g s0 = s) (hw : ∀ j, j < w → isRef P (runN P j s) = false) : LowInv P s0 (g + w) low := by
  refine ⟨I.nd, fun x g0 h => ?_, fun x g0 h t h1 h2 h3 => ?_⟩
  · obtain ⟨a, b, c⟩ := I.ok x g0 h
    exact ⟨a, by omega, c⟩
  · rcases Nat.lt_or_ge g t with q | q
    · exfalso
      have := hw (t - 1 - g) (by omega)
      rw [← e, ← runN_add, show g + (t - 1 - g) = t - 1 by omega, h3] at this
      cases this
    · exact I.only x g0 h t h1 q h3
theorem Phase.go {s0 : S} {count g g' rb : Nat} {low : List (S × Nat)} (h : Phase P s0 count g rb low) (hg : g ≤ g') : Phase P s0 count g' rb low := by
  rcases h with h | ⟨h, g1, L, q, a, b⟩
  · exact .inl h
  · exact .inr ⟨h, g1, L, q, Nat.le_trans a hg, b⟩
theorem Phase.pos (o : Ok P M) {s0 : S} {count g rb : Nat} {low : List (S × Nat)} (h : Phase P s0 count g rb low) (I : LowInv P s0 g low) : 1 ≤ rb := by
  have := I.len o
  rcases h with h | ⟨h, _⟩ <;> omega
theorem Ok.ref_other (o : Ok P M) {s : S} (h : isRef P s = true) : (step P s).2 = s.2 := by
  unfold step
  rw [if_pos h]
/-- a refused take, its spot not met -/
theorem LowInv.snoc (o : Ok P M) {s0 s : S} {count g : Nat} {low : List (S × Nat)} (I : LowInv P s0 g low) (J : LInv P s0 count s g) (hr : isRef P s = true) (hn : ∀ g0, ¬ (step P s, g0) ∈ low) : LowInv P s0 (g + 1) (low ++ [(step P s, g + 1)]) := by
  have e : runN P (g + 1) s0 = step P s := by rw [runN_succ, J.run]
  refine ⟨?_, fun x g0 h => ?_, fun x g0 h t h1 h2 h3 => ?_⟩
  · rw [List.map_append, List.nodup_append]
    refine ⟨I.nd, by simp, fun a ha b hb => ?_⟩
    have e : b = step P s := by simpa using hb
    subst e
    rintro rfl
    obtain ⟨⟨y, c0⟩, hy, hye⟩ := List.mem_map.mp ha
    have hye : y = step P s := hye
    subst hye
    exact hn c0 hy
  · rcases List.mem_append.mp h with q | q
    · obtain ⟨a, b, c⟩ := I.ok x g0 q
      exact ⟨a, by omega, c⟩
    · obtain ⟨rfl, rfl⟩ := Prod.mk.inj (List.mem_singleton.mp q)
      refine ⟨by omega, Nat.le_refl _, e, o.step_lt J.lt, step_nn J.nn, ?_⟩
      rw [o.ref_other hr]
      exact o.ref_lt hr
  · rcases List.mem_append.mp h with q | q
    · rcases Nat.lt_or_ge g t with z | z
      · rw [show t = g + 1 by omega, e]
        rintro rfl
        exact hn g0 q
      · exact I.only x g0 q t h1 z h3
    · obtain ⟨rfl, rfl⟩ := Prod.mk.inj (List.mem_singleton.mp q)
      omega
theorem Phase.snoc (o : Ok P M) {s0 : S} {count g rb : Nat} {low : List (S × Nat)} {x : S} (h : Phase P s0 count g (rb + 1) low) : Phase P s0 count (g + 1) rb (low ++ [(x, g + 1)]) := by
  unfold Phase
  rw [List.length_append, List.length_singleton]
  rcases h with h | ⟨h, g1, L, q, a, b1, b2, b3, b4, b5, b6, b7⟩
  · exact .inl (by omega)
  · refine .inr ⟨by omega, g1, L, q, by omega, b1, b2, b3, b4, b5, b6, fun y g0 hy => ?_⟩
    rcases List.mem_append.mp hy with z | z
    · exact b7 y g0 z
    · obtain ⟨rfl, rfl⟩ := Prod.mk.inj (List.mem_singleton.mp z)
      omega
/-- a ring is met in phase one -/
theorem Phase.ring (o : Ok P M) {s0 s : S} {count g rb g0 : Nat} {low : List (S × Nat)} (h : Phase P s0 count g (rb + 1) low) (I : LowInv P s0 g low) (J : LInv P s0 count s g) (hg : g < count) (hr : isRef P s = true) (he : isEnd P s.1 = false) (hm : (step P s, g0) ∈ low) :
    g0 < g + 1 ∧ 25 ≤ rb ∧ LInv P s0 count (step P s) (g + 1 + (count - (g + 1)) / (g + 1 - g0) * (g + 1 - g0)) ∧ Phase P s0 count (g + 1 + (count - (g + 1)) / (g + 1 - g0) * (g + 1 - g0)) 25 [] := by
  obtain ⟨h1, h2, h3, _⟩ := I.ok _ g0 hm
  have e : runN P (g + 1) s0 = step P s := by rw [runN_succ, J.run]
  have hlt : g0 < g + 1 := by omega
  have eL : runN P (g + 1 - g0) (step P s) = step P s := by
    conv => lhs; rw [← h3]
    rw [← runN_add, show g0 + (g + 1 - g0) = g + 1 by omega, e]
  have er : isRef P (runN P (g + 1 - g0 - 1) (step P s)) = true := by
    rw [← h3, ← runN_add, show g0 + (g + 1 - g0 - 1) = g by omega, J.run]
    exact hr
  have F : ∀ a, 0 < a → a < g + 1 - g0 → isRef P (runN P (a - 1) (step P s)) = true → runN P a (step P s) ≠ step P s := fun a a1 a2 a3 a4 => by
    refine I.only _ g0 hm (g0 + a) (by omega) (by omega) ?_ ?_
    · rw [show g0 + a - 1 = g0 + (a - 1) by omega, runN_add, h3]
      exact a3
    · rw [runN_add, h3]
      exact a4
  rcases h with h | ⟨h, g1, L, q, a, b1, b2, b3, b4, b5, b6, b7⟩
  · have hlen := I.len o
    have hk := Nat.div_mul_le_self (count - (g + 1)) (g + 1 - g0)
    have hk2 := Nat.div_add_mod (count - (g + 1)) (g + 1 - g0)
    have hk3 := Nat.mod_lt (count - (g + 1)) (show g + 1 - g0 > 0 by omega)
    rw [Nat.mul_comm] at hk2
    have back : runN P ((count - (g + 1)) / (g + 1 - g0) * (g + 1 - g0)) (step P s) = step P s := by
      rw [Nat.mul_comm]
      exact runN_back eL _
    have nv : Never P s0 := by
      refine never_of_back (a := g0) (b := g + 1) hlt (by rw [h3, e]) fun j hj => ?_
      rcases Nat.lt_or_ge j g with z | z
      · exact J.noend j z
      · rw [show j = g by omega, J.run]; exact he
    have nv2 : ∀ j, isEnd P (runN P j (step P s)).1 = false := fun j => by
      rw [← e, ← runN_add]
      exact nv _
    have J1 := J.step o hg he
    have J2 := J1.go (w := (count - (g + 1)) / (g + 1 - g0) * (g + 1 - g0)) (by omega) (by rw [back]; exact J1.lt) fun j _ => nv2 j
    rw [back] at J2
    refine ⟨hlt, by omega, J2, .inr ⟨rfl, _, g + 1 - g0, step P s, Nat.le_refl _, J2.run, by omega, eL, er, by omega, F, fun _ _ h => absurd h (by simp)⟩⟩
  · exfalso
    -- a ring within a ring
    have hg0 := b7 _ g0 hm
    have c1 : runN P (g0 - g1) q = step P s := by
      rw [← b1, ← runN_add, show g1 + (g0 - g1) = g0 by omega, h3]
    have c2 : runN P (L - (g0 - g1)) (step P s) = q := by
      rw [← c1, ← runN_add, show g0 - g1 + (L - (g0 - g1)) = L by omega, b3]
    have c3 : runN P (g + 1 - g0) q = q := by
      conv => lhs; rw [← c2]
      rw [← runN_add, Nat.add_comm, runN_add, eL, c2]
    have c4 : runN P (g + 1 - g0 - 1) q = runN P (L - 1) q := by
      have d1 : runN P ((g + 1 - g0) * L - 1) q = runN P (g + 1 - g0 - 1) q := by
        have : (g + 1 - g0) * L - 1 = (g + 1 - g0) * (L - 1) + (g + 1 - g0 - 1) := by
          have z : (g + 1 - g0) * L = (g + 1 - g0) * (L - 1) + (g + 1 - g0) := by
            conv => lhs; rw [show L = (L - 1) + 1 by omega, Nat.mul_succ]
          omega
        rw [this, runN_add, runN_back c3]
      have d2 : runN P ((g + 1 - g0) * L - 1) q = runN P (L - 1) q := by
        have : (g + 1 - g0) * L - 1 = L * (g + 1 - g0 - 1) + (L - 1) := by
          have z : (g + 1 - g0) * L = L * (g + 1 - g0 - 1) + L := by
            rw [Nat.mul_comm]
            conv => lhs; rw [show g + 1 - g0 = (g + 1 - g0 - 1) + 1 by omega, Nat.mul_succ]
          omega
        rw [this, runN_add, runN_back b3]
      rw [← d1, d2]
    exact b6 (g + 1 - g0) (by omega) (by omega) (by rw [c4]; exact b4) c3

/-- phase b: behind a jump, d steps at most to what stops it -/
theorem Ok.segB (o : Ok P M) {s0 : S} {count rb : Nat}
    (A : ∀ (s : S) (g : Nat) (low : List (S × Nat)), LInv P s0 count s g → LowInv P s0 g low → Phase P s0 count g rb low → LTerm P M count (LPost P s0 count) (112 * (rb + 1)) s g [] low)
    (A25 : 25 ≤ rb → ∀ (s : S) (g : Nat), LInv P s0 count s g → Phase P s0 count g 25 [] → LTerm P M count (LPost P s0 count) (112 * (rb + 1)) s g [] []) :
    ∀ (k d : Nat) (s : S) (g : Nat) (seen : List (Nat × Int)) (low : List (S × Nat)), LInv P s0 count s g → LowInv P s0 g low → Phase P s0 count g (rb + 1) low → SInv P M s seen → Stop P count s g d →
      2 * d + (if seen = [] then 0 else 1) ≤ k → LTerm P M count (LPost P s0 count) (112 * (rb + 1) + k + 1) s g seen low
  | k, d, s, g, seen, low, J, I, H, T, Z, hk => by
    refine ⟨fun h => ⟨J, h⟩, fun hg he => ⟨fun hs => ?_, fun hs => ⟨fun hr => ?_, fun hr => ⟨fun g0 hm => ?_, fun hn => ?_⟩⟩⟩⟩
    · obtain ⟨n, n36, r, hf⟩ := T.round o hs
      obtain ⟨J2, _, w0, gd, e⟩ := o.lwGo J hg r hf
      refine ⟨n, n36, r, hf, ?_⟩
      have hne : seen ≠ [] := fun z => by rw [z] at hs; cases hs
      rw [if_neg hne] at hk
      cases k with
      | zero => omega
      | succ k =>
        refine o.segB A A25 k d _ _ _ _ J2 (I.go J.run fun j hj => gd.notRef hj) (H.go (by omega)) SInv.nil ?_ (by rw [if_pos rfl]; omega)
        rcases Z with z | ⟨j, j1, j2⟩
        · exact .inl (by omega)
        · right
          have hj : (lw P s n (count - g)).toNat * n ≤ j := by
            rcases Nat.lt_or_ge j ((lw P s n (count - g)).toNat * n) with y | y
            · exfalso
              rcases j2 with x | x
              · rw [gd.notEnd y] at x; cases x
              · rw [gd.notRef y] at x; cases x
            · exact y
          refine ⟨j - (lw P s n (count - g)).toNat * n, by omega, ?_⟩
          rw [← e, ← runN_add, show (lw P s n (count - g)).toNat * n + (j - (lw P s n (count - g)).toNat * n) = j by omega]
          exact j2
    · have hd : 1 ≤ d := by
        rcases Z with z | ⟨j, j1, j2⟩ <;> omega
      cases k with
      | zero => omega
      | succ k =>
        refine o.segB A A25 k (d - 1) _ _ _ _ (J.step o hg he) (I.go (w := 1) J.run fun j hj => by rw [show j = 0 by omega]; exact hr) (H.go (by omega)) (T.snoc o J.lt J.nn he hr hs) ?_ (by split <;> omega)
        rcases Z with z | ⟨j, j1, j2⟩
        · exact .inl (by omega)
        · right
          have hj : j ≠ 0 := by
            rintro rfl
            rcases j2 with x | x
            · have x : isEnd P s.1 = true := x
              rw [he] at x; cases x
            · have x : isRef P s = true := x
              rw [hr] at x; cases x
          refine ⟨j - 1, by omega, ?_⟩
          have e : runN P (j - 1) (step P s) = runN P j s := by
            conv => rhs; rw [show j = (j - 1) + 1 by omega]
            rfl
          rw [e]
          exact j2
    · obtain ⟨a1, a2, a3, a4⟩ := H.ring o I J hg hr he hm
      exact ⟨a1, (A25 a2 _ _ a3 a4).le (by omega)⟩
    · exact (A _ _ _ (J.step o hg he) (I.snoc o J hr hn) (H.snoc o)).le (by omega)
/-- phase a: ahead of a jump -/
theorem Ok.segA (o : Ok P M) {s0 : S} {count rb : Nat}
    (A : ∀ (s : S) (g : Nat) (low : List (S × Nat)), LInv P s0 count s g → LowInv P s0 g low → Phase P s0 count g rb low → LTerm P M count (LPost P s0 count) (112 * (rb + 1)) s g [] low)
    (A25 : 25 ≤ rb → ∀ (s : S) (g : Nat), LInv P s0 count s g → Phase P s0 count g 25 [] → LTerm P M count (LPost P s0 count) (112 * (rb + 1)) s g [] []) :
    ∀ (k : Nat) (s : S) (g : Nat) (seen : List (Nat × Int)) (low : List (S × Nat)), LInv P s0 count s g → LowInv P s0 g low → Phase P s0 count g (rb + 1) low → SInv P M s seen → seen.length + k = 37 →
      LTerm P M count (LPost P s0 count) (112 * (rb + 1) + 74 + k + 1) s g seen low
  | k, s, g, seen, low, J, I, H, T, hk => by
    refine ⟨fun h => ⟨J, h⟩, fun hg he => ⟨fun hs => ?_, fun hs => ⟨fun hr => ?_, fun hr => ⟨fun g0 hm => ?_, fun hn => ?_⟩⟩⟩⟩
    · obtain ⟨n, n36, r, hf⟩ := T.round o hs
      obtain ⟨J2, Z, w0, gd, e⟩ := o.lwGo J hg r hf
      exact ⟨n, n36, r, hf, (o.segB A A25 72 n _ _ _ _ J2 (I.go J.run fun j hj => gd.notRef hj) (H.go (by omega)) SInv.nil Z (by rw [if_pos rfl]; omega)).le (by omega)⟩
    · have hl := T.len o
      cases k with
      | zero => omega
      | succ k => exact o.segA A A25 k _ _ _ _ (J.step o hg he) (I.go (w := 1) J.run fun j hj => by rw [show j = 0 by omega]; exact hr) (H.go (by omega)) (T.snoc o J.lt J.nn he hr hs) (by rw [List.length_append, List.length_singleton]; omega)
    · obtain ⟨a1, a2, a3, a4⟩ := H.ring o I J hg hr he hm
      exact ⟨a1, (A25 a2 _ _ a3 a4).le (by omega)⟩
    · exact (A _ _ _ (J.step o hg he) (I.snoc o J hr hn) (H.snoc o)).le (by omega)
theorem Ok.fresh (o : Ok P M) {s0 : S} {count : Nat} : ∀ (rb : Nat) (s : S) (g : Nat) (low : List (S × Nat)), LInv P s0 count s g → LowInv P s0 g low → Phase P s0 count g rb low → LTerm P M count (LPost P s0 count) (112 * (rb + 1)) s g [] low
  | 0, s, g, low, J, I, H => by
    have := H.pos o I
    omega
  | rb + 1, s, g, low, J, I, H => by
    have A := fun s g low => o.fresh (s0 := s0) (count := count) rb s g low
    have A25 : 25 ≤ rb → ∀ (s : S) (g : Nat), LInv P s0 count s g → Phase P s0 count g 25 [] → LTerm P M count (LPost P s0 count) (112 * (rb + 1)) s g [] [] := fun h s g J H =>
      (o.fresh 25 s g [] J LowInv.nil H).le (by omega)
    exact (o.segA A A25 37 s g [] low J I H SInv.nil rfl).le (by omega)
  termination_by rb => rb
theorem Ok.lterm (o : Ok P M) {s0 : S} (hp : s0.1 < P.length) (h0 : 0 ≤ s0.2) (count : Nat) : LTerm P M count (LPost P s0 count) 5712 s0 0 [] [] :=
  o.fresh 50 s0 0 [] ⟨hp, h0, Nat.zero_le _, rfl, fun j hj => absurd hj (Nat.not_lt_zero j)⟩ LowInv.nil (.inl rfl)
end
end K53M
end

section
set_option linter.all false
set_option autoImplicit false
/-! K53M, part 5: how long a run may be; answers; the same steps in another order. -/
namespace K53M
section
variable {P : Pg} {M : Nat}
/-- within T turns from a number up to C: so many steps, or for ever -/
def Bd (P : Pg) (s0 : S) (C K T : Nat) (s : S) (g : Nat) : Prop := Never P s0 ∨ (g ≤ T * (36 * (C + 4 * K + 1)) ∧ s.2 ≤ (C : Int) + 4 * (T : Int))
theorem LTerm.strong (o : Ok P M) {s0 : S} {count C K : Nat} : ∀ {m T : Nat} {s : S} {g : Nat} {seen : List (Nat × Int)} {low : List (S × Nat)}, LTerm P M count (LPost P s0 count) m s g seen low → LInv P s0 count s g → Bd P s0 C K T s g → T + m ≤ K →
    (∀ x g0, (x, g0) ∈ low → runN P g0 s0 = x) → LTerm P M count (fun s g => LPost P s0 count s g ∧ Bd P s0 C K K s g) m s g seen low
  | 0, _, _, _, _, _, h, _, _, _, _ => h.elim
  | m + 1, T, s, g, seen, low, ⟨h1, h2⟩, I, B, hT, R => by
    have up : ∀ {T T' : Nat} {s : S} {g : Nat}, T ≤ T' → Bd P s0 C K T s g → Bd P s0 C K T' s g := fun {T T' s g} h b => by
      rcases b with b | ⟨b1, b2⟩
      · exact .inl b
      · exact .inr ⟨Nat.le_trans b1 (Nat.mul_le_mul_right _ h), by omega⟩
    refine ⟨fun h => ⟨h1 h, up (by omega) B⟩, fun hg he => ⟨fun hs => ?_, fun hs => ⟨fun hr => ?_, fun hr => ⟨fun g0 hm => ?_, fun hn => ?_⟩⟩⟩⟩
    · obtain ⟨n, n36, r, hf, t⟩ := (h2 hg he).1 hs
      obtain ⟨J, Z, w0, gd, e⟩ := o.lwGo I hg r hf
      refine ⟨n, n36, r, hf, t.strong o J (T := T + 1) ?_ (by omega) R⟩
      rcases B with b | ⟨b1, b2⟩
      · exact .inl b
      · rcases ilt 0 (fallN P s n) with q | q
        · right
          have hw : lw P s n (count - g) ≤ s.2 + 1 := by
            unfold lw
            rw [if_pos q]
            have hn0 := needN_nn (P := P) s n
            have ht : tms P s n ≤ s.2 + 1 := by
              unfold tms
              rcases ilt (s.2 - needN P s n) 0 with y | y
              · have : (s.2 - needN P s n) / fallN P s n < 0 := Int.ediv_neg_of_neg_of_pos y q
                have := I.nn
                omega
              · have : (s.2 - needN P s n) / fallN P s n ≤ s.2 - needN P s n := Int.ediv_le_self _ y
                omega
            have := I.nn
            exact Int.max_le.mpr ⟨by omega, Int.le_trans (Int.min_le_right _ _) ht⟩
          refine ⟨?_, ?_⟩
          · have h3 : (lw P s n (count - g)).toNat * n ≤ (C + 4 * K + 1) * 36 := Nat.mul_le_mul (by omega) n36
            rw [Nat.succ_mul]
            omega
          · have h3 : 0 ≤ lw P s n (count - g) * fallN P s n := Int.mul_nonneg w0 (Int.le_of_lt q)
            show s.2 - lw P s n (count - g) * fallN P s n ≤ _
            omega
        · left
          exact Never.of_run (c := g) (by rw [I.run]; exact never_of_round o r q (hf q)) I.noend
    · refine (((h2 hg he).2 hs).1 hr).strong o (I.step o hg he) (T := T + 1) ?_ (by omega) R
      rcases B with b | ⟨b1, b2⟩
      · exact .inl b
      · have := o.step_le I.lt
        refine .inr ⟨?_, by omega⟩
        rw [Nat.succ_mul]
        omega
    · obtain ⟨a1, a2⟩ := (((h2 hg he).2 hs).2 hr).1 g0 hm
      have e : runN P (g + 1) s0 = step P s := by rw [runN_succ, I.run]
      have J := I.step o hg he
      have nv : Never P s0 := never_of_back (a := g0) (b := g + 1) a1 (by rw [R _ _ hm, e]) fun j hj => by
        rcases Nat.lt_or_ge j g with z | z
        · exact I.noend j z
        · rw [show j = g by omega, I.run]; exact he
      have nv2 : ∀ j, isEnd P (runN P j (step P s)).1 = false := fun j => by
        rw [← e, ← runN_add]
        exact nv _
      have eL : runN P (g + 1 - g0) (step P s) = step P s := by
        conv => lhs; rw [← R _ _ hm]
        rw [← runN_add, show g0 + (g + 1 - g0) = g + 1 by omega, e]
      have back : runN P ((count - (g + 1)) / (g + 1 - g0) * (g + 1 - g0)) (step P s) = step P s := by
        rw [Nat.mul_comm]
        exact runN_back eL _
      have hk := Nat.div_mul_le_self (count - (g + 1)) (g + 1 - g0)
      have J2 := J.go (w := (count - (g + 1)) / (g + 1 - g0) * (g + 1 - g0)) (by omega) (by rw [back]; exact J.lt) fun j _ => nv2 j
      rw [back] at J2
      exact ⟨a1, a2.strong o J2 (T := T + 1) (.inl nv) (by omega) fun _ _ h => absurd h (by simp)⟩
    · have J := I.step o hg he
      refine ((((h2 hg he).2 hs).2 hr).2 hn).strong o J (T := T + 1) ?_ (by omega) fun x g0 h => ?_
      · rcases B with b | ⟨b1, b2⟩
        · exact .inl b
        · have := o.step_le I.lt
          refine .inr ⟨?_, by omega⟩
          rw [Nat.succ_mul]
          omega
      · rcases List.mem_append.mp h with z | z
        · exact R x g0 z
        · obtain ⟨rfl, rfl⟩ := Prod.mk.inj (List.mem_singleton.mp z)
          exact J.run
/-- what the law's own run hands back -/
def RPost (P : Pg) (s0 : S) (count : Nat) (s : S) (g : Nat) : Prop := (LInv P s0 count s g ∧ (g = count ∨ isEnd P s.1 = true)) ∧ (s0.2 ≤ 10 ^ 18 → Never P s0 ∨ g ≤ 10 ^ 29)
theorem LTerm.imp {count : Nat} {Q Q' : S → Nat → Prop} (hQ : ∀ s g, Q s g → Q' s g) : ∀ {m : Nat} {s : S} {g : Nat} {seen : List (Nat × Int)} {low : List (S × Nat)}, LTerm P M count Q m s g seen low → LTerm P M count Q' m s g seen low
  | 0, _, _, _, _, h => h.elim
  | m + 1, s, g, seen, low, ⟨h1, h2⟩ => by
    refine ⟨fun h => hQ _ _ (h1 h), fun a b => ⟨fun k => ?_, fun k => ⟨fun r => ?_, fun r => ⟨fun g0 h => ?_, fun h => ?_⟩⟩⟩⟩
    · obtain ⟨n, a1, a2, a3, a4⟩ := (h2 a b).1 k
      exact ⟨n, a1, a2, a3, a4.imp hQ⟩
    · exact (((h2 a b).2 k).1 r).imp hQ
    · obtain ⟨a1, a2⟩ := (((h2 a b).2 k).2 r).1 g0 h
      exact ⟨a1, a2.imp hQ⟩
    · exact ((((h2 a b).2 k).2 r).2 h).imp hQ
/-- THE LAW'S RUN: it comes to its end within 5712 turns -/
theorem Ok.lawrun (o : Ok P M) {s0 : S} (hp : s0.1 < P.length) (h0 : 0 ≤ s0.2) (count : Nat) : LTerm P M count (RPost P s0 count) 5712 s0 0 [] [] := by
  by_cases hc : s0.2 ≤ 10 ^ 18
  · refine ((o.lterm hp h0 count).strong o (C := 10 ^ 18) (K := 5712) (T := 0) ⟨hp, h0, Nat.zero_le _, rfl, fun j hj => absurd hj (Nat.not_lt_zero j)⟩ (.inr ⟨Nat.zero_le _, by simpa using hc⟩) (by omega) fun _ _ h => absurd h (by simp)).imp ?_
    rintro s g ⟨h1, h2⟩
    refine ⟨h1, fun _ => ?_⟩
    rcases h2 with h2 | ⟨h2, _⟩
    · exact .inl h2
    · exact .inr (Nat.le_trans h2 (by decide))
  · refine (o.lterm hp h0 count).imp ?_
    intro s g h
    exact ⟨h, fun z => absurd z hc⟩

/-! ### answers -/
/-- none: it never ends; some (w, N): it ends with the word w behind N steps -/
def Ans (P : Pg) (s : S) : Option (Bool × Nat) → Prop
  | none => Never P s
  | some (w, N) => HaltsAt P s N ∧ P[(runN P N s).1]? = some (.fin w)
theorem HaltsAt.uniq {s : S} {N K : Nat} (h : HaltsAt P s N) (k : HaltsAt P s K) : N = K := by
  rcases Nat.lt_trichotomy N K with q | q | q
  · have := k.2 N q
    rw [h.1] at this
    cases this
  · exact q
  · have := h.2 K q
    rw [k.1] at this
    cases this
theorem Ans.uniq {s : S} {a b : Option (Bool × Nat)} (h : Ans P s a) (k : Ans P s b) : a = b := by
  cases a with
  | none =>
    cases b with
    | none => rfl
    | some b =>
      have := h b.2
      rw [k.1.1] at this
      cases this
  | some a =>
    cases b with
    | none =>
      have := k a.2
      rw [h.1.1] at this
      cases this
    | some b =>
      obtain ⟨w, N⟩ := a
      obtain ⟨v, K⟩ := b
      have e := h.1.uniq k.1
      subst e
      have h2 := h.2
      have k2 := k.2
      have h2 : P[(runN P N s).1]? = some (.fin w) := h2
      have k2 : P[(runN P N s).1]? = some (.fin v) := k2
      rw [h2] at k2
      cases k2
      rfl
theorem isEnd_fin {p : Nat} (h : isEnd P p = true) : ∃ w, P[p]? = some (.fin w) := by
  unfold isEnd at h
  split at h
  · rename_i w e
    exact ⟨w, e⟩
  · cases h
theorem fin_isEnd {p : Nat} {w : Bool} (h : P[p]? = some (.fin w)) : isEnd P p = true := by
  unfold isEnd
  rw [h]
/-- the law's own answer -/
theorem RPost.ans {s0 s : S} {g : Nat} (h : RPost P s0 (10 ^ 30) s g) (hc : s0.2 ≤ 10 ^ 18) : (∀ w, P[s.1]? = some (.fin w) → Ans P s0 (some (w, g))) ∧ (isEnd P s.1 = false → Ans P s0 none) := by
  obtain ⟨⟨I, h1⟩, h2⟩ := h
  refine ⟨fun w e => ⟨⟨by rw [I.run]; exact fin_isEnd e, I.noend⟩, by rw [I.run]; exact e⟩, fun he => ?_⟩
  rcases h1 with h1 | h1
  · rcases h2 hc with h2 | h2
    · exact h2
    · exfalso
      rw [h1] at h2
      exact absurd h2 (by decide)
  · rw [he] at h1
    cases h1
theorem RPost.run {s0 s : S} {count g : Nat} (h : RPost P s0 count s g) : runN P count s0 = s := by
  obtain ⟨⟨I, h1⟩, _⟩ := h
  rcases h1 with h1 | h1
  · rw [← h1]
    exact I.run
  · have := I.gle
    rw [show count = g + (count - g) by omega, runN_add, I.run, runN_end h1]
/-- begun anew where it stands -/
theorem RPost.later {s0 s : S} {count g : Nat} (h : RPost P s0 count s g) {a : Option (Bool × Nat)} (ha : Ans P s0 a) : Ans P s (a.map fun x => (x.1, x.2 - g)) ∧ ∀ w N, a = some (w, N) → g ≤ N := by
  obtain ⟨⟨I, h1⟩, _⟩ := h
  cases a with
  | none =>
    refine ⟨?_, fun _ _ z => by cases z⟩
    have : Never P s0 := ha
    have := this.run g
    rw [I.run] at this
    exact this
  | some a =>
    obtain ⟨w, N⟩ := a
    obtain ⟨⟨a1, a2⟩, a3⟩ := ha
    have hle : g ≤ N := by
      rcases Nat.lt_or_ge N g with q | q
      · have := I.noend N q
        rw [a1] at this
        cases this
      · exact q
    have e : runN P (N - g) s = runN P N s0 := by rw [← I.run, ← runN_add, show g + (N - g) = N by omega]
    refine ⟨⟨⟨by rw [e]; exact a1, fun j hj => ?_⟩, by rw [e]; exact a3⟩, fun w' N' z => by cases z; exact hle⟩
    have := a2 (g + j) (by omega)
    rwa [runN_add, I.run] at this

theorem step_add {s : S} {k to : Nat} (e : P[s.1]? = some (.add k to)) : step P s = (to, s.2 + (k : Int)) := by
  unfold step isRef free
  rw [e]
  rfl
theorem step_rest {s : S} {m : Nat} {tos : List Nat} (e : P[s.1]? = some (.rest m tos)) : step P s = (tos.getD (s.2 % (m : Int)).toNat 0, s.2) := by
  unfold step isRef free
  rw [e]
  rfl
theorem step_take {s : S} {k to ot : Nat} (e : P[s.1]? = some (.take k to ot)) : step P s = if s.2 < (k : Int) then (ot, s.2) else (to, s.2 - (k : Int)) := by
  have h1 : isRef P s = decide (s.2 < (k : Int)) := by
    unfold isRef
    rw [e]
  have h2 : other P s.1 = ot := by
    unfold other
    rw [e]
  have h3 : free P s = (to, s.2 - (k : Int)) := by
    unfold free
    rw [e]
  unfold step
  rw [h1, h2, h3]
  by_cases q : s.2 < (k : Int)
  · rw [if_pos q, if_pos (decide_eq_true q)]
  · rw [if_neg q, if_neg (by rw [decide_eq_false q]; decide)]

/-! ### the same steps in another order -/
def renS (f : Nat → Nat) : Stp → Stp
  | .fin w => .fin w
  | .add k to => .add k (f to)
  | .take k to o => .take k (f to) (f o)
  | .rest m tos => .rest m (tos.map f)
/-- ord: the old place of each new one -/
structure Ren (P P' : Pg) (ord : List Nat) : Prop where
  len : ord.length = P.length
  len' : P'.length = P.length
  nd : ord.Nodup
  lt : ∀ t ∈ ord, t < P.length
  all : ∀ t, t < P.length → t ∈ ord
  st : ∀ (i : Nat) (t : Nat), ord[i]? = some t → P'[i]? = (P[t]?).map (renS fun t => ord.idxOf t)
def phi (ord : List Nat) (s : S) : S := (ord.getD s.1 0, s.2)
variable {P' : Pg} {ord : List Nat}
theorem Ren.ix (r : Ren P P' ord) {t : Nat} (h : t < P.length) : ord.idxOf t < P'.length ∧ ord.getD (ord.idxOf t) 0 = t := by
  have h1 := List.idxOf_lt_length_of_mem (r.all t h)
  refine ⟨by rw [r.len', ← r.len]; exact h1, ?_⟩
  have : ord.getD (ord.idxOf t) 0 = ord[ord.idxOf t] := by simp [List.getD, h1]
  rw [this]
  exact List.getElem_idxOf h1
theorem Ren.get (r : Ren P P' ord) {i : Nat} (h : i < P'.length) : ∃ t, ord[i]? = some t ∧ t < P.length ∧ ord.getD i 0 = t := by
  have hl : i < ord.length := by rw [r.len, ← r.len']; exact h
  refine ⟨ord[i], List.getElem?_eq_getElem hl, r.lt _ (List.getElem_mem hl), by simp [List.getD, hl]⟩
theorem Ren.ok (r : Ren P P' ord) (o : Ok P M) : Ok P' M := by
  refine ⟨by rw [r.len']; exact o.l1, by rw [r.len']; exact o.l6, o.m1, o.m6, fun i x e => ?_⟩
  have hi : i < P'.length := (List.getElem?_eq_some_iff.mp e).1
  obtain ⟨t, e1, e2, _⟩ := r.get hi
  obtain ⟨y, ey, ok⟩ := o.has e2
  have e3 := r.st i t e1
  rw [e, ey] at e3
  have e4 : x = renS (fun t => ord.idxOf t) y := Option.some.inj e3
  subst e4
  have f : ∀ {t : Nat}, t < P.length → ord.idxOf t < P'.length := fun {t} h => (r.ix h).1
  cases y with
  | fin w => trivial
  | add k to => exact ⟨ok.1, ok.2.1, f ok.2.2⟩
  | take k to ot => exact ⟨ok.1, ok.2.1, f ok.2.2.1, f ok.2.2.2⟩
  | rest m tos =>
    refine ⟨ok.1, ok.2.1, by rw [List.length_map]; exact ok.2.2.1, fun t ht => ?_, ok.2.2.2.2⟩
    obtain ⟨u, hu, rfl⟩ := List.mem_map.mp ht
    exact f (ok.2.2.2.1 u hu)
theorem Ren.phi_step (r : Ren P P' ord) (o : Ok P M) {s : S} (h : s.1 < P'.length) : step P (phi ord s) = phi ord (step P' s) := by
  obtain ⟨t, e1, e2, e3⟩ := r.get h
  obtain ⟨y, ey, ok⟩ := o.has e2
  have e4 := r.st s.1 t e1
  rw [ey] at e4
  have e4 : P'[s.1]? = some (renS (fun t => ord.idxOf t) y) := e4
  have e5 : P[(phi ord s).1]? = some y := by
    show P[ord.getD s.1 0]? = _
    rw [e3]
    exact ey
  have f : ∀ {t : Nat}, t < P.length → ord.getD (ord.idxOf t) 0 = t := fun {t} h => (r.ix h).2
  cases y with
  | fin w =>
    rw [step_end (fin_isEnd e5), step_end (fin_isEnd e4)]
  | add k to =>
    rw [step_add e5, step_add e4]
    exact Prod.ext (f ok.2.2).symm rfl
  | take k to ot =>
    rw [step_take e5, step_take e4]
    by_cases q : s.2 < (k : Int)
    · have q' : (phi ord s).2 < (k : Int) := q
      rw [if_pos q, if_pos q']
      exact Prod.ext (f ok.2.2.2).symm rfl
    · have q' : ¬ (phi ord s).2 < (k : Int) := q
      rw [if_neg q, if_neg q']
      exact Prod.ext (f ok.2.2.1).symm rfl
  | rest m tos =>
    rw [step_rest e5, step_rest e4]
    refine Prod.ext ?_ rfl
    show tos.getD (s.2 % (m : Int)).toNat 0 = ord.getD ((tos.map fun t => ord.idxOf t).getD (s.2 % (m : Int)).toNat 0) 0
    have a1 : 0 ≤ s.2 % (m : Int) := Int.emod_nonneg _ (by have := ok.1; omega)
    have a2 : s.2 % (m : Int) < (m : Int) := Int.emod_lt_of_pos _ (by have := ok.1; omega)
    have hi : (s.2 % (m : Int)).toNat < tos.length := by rw [ok.2.2.1]; omega
    have g1 : tos.getD (s.2 % (m : Int)).toNat 0 = tos[(s.2 % (m : Int)).toNat] := by simp [List.getD, hi]
    have g2 : (tos.map fun t => ord.idxOf t).getD (s.2 % (m : Int)).toNat 0 = ord.idxOf tos[(s.2 % (m : Int)).toNat] := by simp [List.getD, hi]
    rw [g1, g2, f (ok.2.2.2.1 _ (List.getElem_mem hi))]
theorem Ren.phi_run (r : Ren P P' ord) (o : Ok P M) : ∀ (n : Nat) {s : S}, s.1 < P'.length → runN P n (phi ord s) = phi ord (runN P' n s)
  | 0, _, _ => rfl
  | n + 1, s, h => by
    show runN P n (step P (phi ord s)) = phi ord (runN P' n (step P' s))
    rw [r.phi_step o h]
    exact r.phi_run o n ((r.ok o).step_lt h)
theorem Ren.fin (r : Ren P P' ord) (o : Ok P M) {s : S} (h : s.1 < P'.length) (w : Bool) : P'[s.1]? = some (.fin w) ↔ P[(phi ord s).1]? = some (.fin w) := by
  obtain ⟨t, e1, e2, e3⟩ := r.get h
  obtain ⟨y, ey, ok⟩ := o.has e2
  have e4 := r.st s.1 t e1
  rw [ey] at e4
  have e5 : P[(phi ord s).1]? = some y := by
    show P[ord.getD s.1 0]? = _
    rw [e3]
    exact ey
  have e4 : P'[s.1]? = some (renS (fun t => ord.idxOf t) y) := e4
  rw [e4, e5]
  cases y <;> simp [renS]
theorem Ren.isEnd (r : Ren P P' ord) (o : Ok P M) {s : S} (h : s.1 < P'.length) : isEnd P' s.1 = isEnd P (phi ord s).1 := by
  cases e : K53M.isEnd P' s.1 with
  | true =>
    obtain ⟨w, q⟩ := isEnd_fin e
    exact (fin_isEnd ((r.fin o h w).mp q)).symm
  | false =>
    cases e2 : K53M.isEnd P (phi ord s).1 with
    | false => rfl
    | true =>
      obtain ⟨w, q⟩ := isEnd_fin e2
      rw [fin_isEnd ((r.fin o h w).mpr q)] at e
      cases e
theorem Ren.ans (r : Ren P P' ord) (o : Ok P M) {s : S} (h : s.1 < P'.length) {a : Option (Bool × Nat)} (ha : Ans P (phi ord s) a) : Ans P' s a := by
  have o' := r.ok o
  cases a with
  | none =>
    intro N
    have := ha N
    rw [r.phi_run o N h] at this
    rw [r.isEnd o (o'.runN_lt N h)]
    exact this
  | some a =>
    obtain ⟨w, N⟩ := a
    obtain ⟨⟨a1, a2⟩, a3⟩ := ha
    refine ⟨⟨?_, fun j hj => ?_⟩, ?_⟩
    · rw [r.phi_run o N h] at a1
      rw [r.isEnd o (o'.runN_lt N h)]
      exact a1
    · have := a2 j hj
      rw [r.phi_run o j h] at this
      rw [r.isEnd o (o'.runN_lt j h)]
      exact this
    · rw [r.phi_run o N h] at a3
      exact (r.fin o (o'.runN_lt N h) w).mpr a3
end
end K53M
end

section
set_option linter.all false
set_option autoImplicit false
/-! K53M, part 6: the round number; what a free step does by the step alone; sizes. -/
namespace K53M
def stepM (acc : Nat) (x : Stp) : Nat := match x with
  | .rest m _ => Nat.lcm acc m
  | _ => acc
def roundT (P : Pg) (i : Nat) : Nat := (P.take i).foldl stepM 1
def roundM (P : Pg) : Nat := P.foldl stepM 1
theorem roundT_all (P : Pg) : roundT P P.length = roundM P := by
  unfold roundT roundM
  rw [List.take_length]
theorem roundT_succ {P : Pg} {i : Nat} {x : Stp} (h : P[i]? = some x) : roundT P (i + 1) = stepM (roundT P i) x := by
  unfold roundT
  rw [List.take_add_one, h, List.foldl_append]
  rfl
section
variable {P : Pg} {M : Nat}
theorem Ok.roundT (o : Ok P M) : ∀ (i : Nat), i ≤ P.length → K53M.roundT P i ∣ M ∧ 1 ≤ K53M.roundT P i
  | 0, _ => ⟨Nat.one_dvd M, Nat.le_refl 1⟩
  | i + 1, h => by
    obtain ⟨h1, h2⟩ := o.roundT i (by omega)
    obtain ⟨x, e, ok⟩ := o.has (show i < P.length by omega)
    rw [roundT_succ e]
    cases x with
    | rest m tos =>
      obtain ⟨a, b, c, d, f⟩ := ok
      exact ⟨Nat.lcm_dvd h1 f, Nat.lcm_pos (by omega) (by omega)⟩
    | _ => exact ⟨h1, h2⟩
theorem Ok.roundT_le (o : Ok P M) {i : Nat} (h : i ≤ P.length) : 1 ≤ K53M.roundT P i ∧ K53M.roundT P i ≤ 6 := by
  obtain ⟨h1, h2⟩ := o.roundT i h
  exact ⟨h2, Nat.le_trans (Nat.le_of_dvd o.m1 h1) o.m6⟩
theorem roundT_dvd {i : Nat} : ∀ {j : Nat}, i ≤ j → j ≤ P.length → roundT P i ∣ roundT P j
  | 0, h, _ => by
    rw [Nat.le_zero.mp h]
    exact Nat.dvd_refl _
  | j + 1, h, hj => by
    rcases Nat.lt_or_ge i (j + 1) with q | q
    · have ih := roundT_dvd (i := i) (j := j) (by omega) (by omega)
      have e : P[j]? = some P[j] := List.getElem?_eq_getElem hj
      rw [roundT_succ e]
      refine Nat.dvd_trans ih ?_
      unfold stepM
      split
      · exact Nat.dvd_lcm_left _ _
      · exact Nat.dvd_refl _
    · rw [Nat.le_antisymm h q]
      exact Nat.dvd_refl _
theorem Ok.roundM (o : Ok P M) : Ok P (K53M.roundM P) := by
  have h := o.roundT_le (Nat.le_refl P.length)
  rw [roundT_all] at h
  refine ⟨o.l1, o.l6, h.1, h.2, fun p x e => ?_⟩
  have ok := o.st p x e
  cases x with
  | fin w => trivial
  | add k to => exact ok
  | take k to ot => exact ok
  | rest m tos =>
    obtain ⟨a, b, c, d, f⟩ := ok
    refine ⟨a, b, c, d, ?_⟩
    have hp : p < P.length := (List.getElem?_eq_some_iff.mp e).1
    have h2 := roundT_dvd (P := P) (i := p + 1) (j := P.length) hp (Nat.le_refl _)
    rw [roundT_all, roundT_succ e] at h2
    exact Nat.dvd_trans (Nat.dvd_lcm_right _ _) h2
/-- to which place a free step leads, how much the counter grows -/
def freeX : Stp → Int → Nat × Int
  | .fin _, _ => (0, 0)
  | .add k to, _ => (to, (k : Int))
  | .take k to _, _ => (to, 0 - (k : Int))
  | .rest m tos, c => (tos.getD (c % (m : Int)).toNat 0, 0)
theorem free_X {s : S} {x : Stp} (e : P[s.1]? = some x) (hx : ∀ w, x ≠ .fin w) : free P s = ((freeX x s.2).1, s.2 + (freeX x s.2).2) := by
  unfold free
  rw [e]
  cases x with
  | fin w => exact absurd rfl (hx w)
  | add k to => rfl
  | take k to o => exact Prod.ext rfl (by show s.2 - (k : Int) = s.2 + (0 - (k : Int)); omega)
  | rest m tos => exact Prod.ext rfl (by show s.2 = s.2 + 0; omega)
theorem Ok.freeX_mod (o : Ok P M) {p : Nat} {x : Stp} (e : P[p]? = some x) (c d : Int) (h : (M : Int) ∣ c - d) : freeX x c = freeX x d := by
  have ok := o.st p x e
  cases x with
  | rest m tos =>
    obtain ⟨q, hq⟩ := ok.2.2.2.2
    obtain ⟨t, ht⟩ := h
    have h2 : c % (m : Int) = d % (m : Int) := by
      have : c = d + (m : Int) * ((q : Int) * t) := by
        rw [← Int.mul_assoc, ← Int.natCast_mul, ← hq]
        omega
      rw [this, Int.add_mul_emod_self_left]
    show (tos.getD (c % (m : Int)).toNat 0, (0 : Int)) = (tos.getD (d % (m : Int)).toNat 0, 0)
    rw [h2]
  | _ => rfl
/-- how much a round falls -/
theorem Ok.free_le (o : Ok P M) {s : S} (hp : s.1 < P.length) : (free P s).2 ≤ s.2 + 4 ∧ s.2 - 4 ≤ (free P s).2 := by
  obtain ⟨x, e, ok⟩ := o.has hp
  unfold free
  rw [e]
  cases x with
  | fin w => exact ⟨by show s.2 ≤ _; omega, by show _ ≤ s.2; omega⟩
  | add k to =>
    have h1 := ok.2.1
    exact ⟨by show s.2 + (k : Int) ≤ _; omega, by show _ ≤ s.2 + (k : Int); omega⟩
  | take k to ot =>
    have h1 := ok.2.1
    exact ⟨by show s.2 - (k : Int) ≤ _; omega, by show _ ≤ s.2 - (k : Int); omega⟩
  | rest m tos => exact ⟨by show s.2 ≤ _; omega, by show _ ≤ s.2; omega⟩
theorem Ok.fall_le (o : Ok P M) {s : S} (hp : s.1 < P.length) : ∀ n : Nat, fallN P s n ≤ 4 * n ∧ -(4 * n) ≤ fallN P s n
  | 0 => by
    have : fallN P s 0 = 0 := by
      show s.2 - s.2 = 0
      omega
    rw [this]
    omega
  | n + 1 => by
    have ih := o.fall_le hp n
    have h := o.free_le (o.frN_lt n hp)
    rw [← frN_succ] at h
    unfold fallN at ih ⊢
    omega
theorem Ok.fall_sz (o : Ok P M) {s : S} (hp : s.1 < P.length) {n : Nat} (r : IsRound P M s n) : fallN P s n ≤ 144 ∧ -144 ≤ fallN P s n ∧ n ≤ 36 := by
  have h1 := o.fall_le hp n
  have h2 := Nat.le_trans (o.round_le hp r) o.le36
  omega
end
end K53M
end

section
set_option Elab.async false
set_option linter.all false
set_option maxRecDepth 100000
/-! K53, the layer's additions: an attribute as a target, repr of data, defs that are called where no repr runs, a dict comprehension with tuple keys. -/
namespace K53
open PySem PySem.Spec PyProof.Rows L2

/-! ### self.f, .. = a tuple -/
def gFld (K : PySem.W.Frag) (ta : TE) (f : Str) : TG := fun v σ H Q => ta σ H fun x H1 =>
  ∃ (a C dx : Addr) (fs : List (Str × V)), x = .ref a ∧ H1 a = some (.ins C dx fs) ∧ Cls K C ∧ NoAttr K C f ∧ fs.length < 1000 ∧ Q σ (upd H1 a (.ins C dx (putF f v fs)))
section
variable {X : Cx}
theorem pg_fld {o : Expr} {f : Str} {pos : Pos} {ta : TE} (ho : PE X o ta) : PG X (.Attribute o f pos) (gFld X.K ta f) := by
  constructor
  intro pins s σ H v u Q I rv hw
  rw [assign_Attribute]
  refine wpAny_bind (wpAny_holding (thn (ho.run pins s σ H _ I hw) ?_))
  rintro ov s1 ⟨x, H1, I1, rx, a, C, dx, fs, rfl, ea, c, n, l, q⟩
  cases rx
  refine wpAny_bind (wpAny_standAt (wpAny_bind (wpAny_holding ?_)))
  refine setattr_ok I1 ea c n l rv ?_
  intro s2 I2
  exact wpAny_release ⟨σ, _, I2, q⟩

/-! ### repr -/
/-- repr of a list or a tuple, where no repr runs around -/
theorem call_reprD (hg : X.A.guards = some []) (hu : X.A.units + 64 < cLine) : CallR X (.builtin "repr") (fun xs H Q => ∃ (a : Addr) (d : PyData), xs = [.ref a] ∧ Dp X.K H (.ref a) d ∧ d.showable = true ∧ d.hasDict = false ∧ d.depth < 60 ∧ d.shown.length ≤ sizeLine ∧ Q (.str d.shown) H) := by
  intro pins s σ H xs us Q I r h
  obtain ⟨a, d, rfl, hd, h1, h2, h3, h4, q⟩ := h
  obtain ⟨u, rfl, rx⟩ := vals1 r
  cases rx
  obtain ⟨as, rd⟩ := Dp.reads I d _ _ hd rfl
  refine repr_of_reads' rd h1 (PyData.noDict_hsm h2) hg (by omega) (fun _ _ e => e) ?_ h4
  intro h' t tk hk
  exact ⟨.str d.shown, H, I.kept hk, ⟨t, rfl⟩, q⟩
end
end K53
end

section
set_option Elab.async false
set_option linter.all false
set_option maxRecDepth 100000
/-! K53, the layer's additions, part 2: defs that are called where no repr runs (GOk), and a law's end over such a def. -/
namespace K53
open PySem PySem.Spec PyProof.Rows L2

/-- as FnOk, asked only where no repr runs around -/
structure GOk (P : Program) (w : World) (K : PySem.W.Frag) (mg : Str → Option Value) (base : Heap) (k : Nat) (f : Addr) (fd : FuncData) (ps : List Str) (sp : Sp) : Prop where
  len : ∀ vs H Q E, sp vs H Q E → vs.length = ps.length
  run : ∀ (A : Around) (outer : List Env) (s : Shared) (H : Hp) (args : Args) (us : List Value) (vs : List V) (Q : VK) (E : XK), A.guards = some [] → Room k A → Env0 P w K mg base A outer s H → BindsTo s fd args (ps.zip us) → Vals vs us → sp vs H Q E →
    codeAny (model P w) A (.call (.ref f) args) (CR CX0 outer P w H s Q E) s
theorem gok_of {P : Program} {w : World} {K : PySem.W.Frag} {mg : Str → Option Value} {base : Heap} {x qual : Str} {params : Arguments} {body : List Stmt} {scope : Scope} {dvs : List V} {kws : List (Str × V)} {f : Addr} {fd : FuncData} {N ps : List Str} {k : Nat} {sp : Sp}
    (F : FunD K x qual params body scope dvs kws f fd) (S : FnScope N ps scope) (len : ∀ vs H Q E, sp vs H Q E → vs.length = ps.length)
    (hbody : ∀ (cdv : Value) (A : Around) (outer : List Env) (s : Shared) (H : Hp) (vs : List V) (Q : VK) (E : XK), A.guards = some [] → Room k (A.deeper (envOfC qual scope s.heap.objs.size f cdv)) → sp vs H Q E →
      ∃ t, PSs (cxOf CX0 P w K mg base N qual scope f cdv A outer s H E) body t ∧ t { nx := fun _ H' => Q .non H', rt := Q } (start N vs) H) : GOk P w K mg base (k + 1) f fd ps sp := by
  obtain ⟨oc, od, dV, kV, doc, pm, an, cdv, ct, osl, rfl, lk, hcd, _, _⟩ := F.ex
  refine ⟨len, ?_⟩
  intro A outer s H args us vs Q E hgd hr e0 hb r hsp
  have hl := len _ _ _ _ hsp
  have keepB : ∀ (b : Addr) (o : Obj), base.get? b = some o → s.heap.get? b = some o := fun b o e => (e0.bs b o e).1
  have KX : K.In s.heap := PySem.W.Frag.In.keeps e0.mod.kin keepB
  have lim : s.heap.NoLimit := e0.mod.nolimit.keeps keepB
  have hkind : ∀ y ∈ ps.zip us, scope.names.lookup y.1 = some .local ∨ (scope.names.lookup y.1 = some .cell ∧ ((cellsFrom (s.heap.objs.size + 1) scope.names []).lookup y.1).isSome = true) := by
    rintro ⟨n, v⟩ hy
    cases S.par n (List.of_mem_zip hy).1 with
    | inl q => exact .inl q
    | inr q => exact .inr ⟨q, PySem.W.cellsFrom_some _ _ _ (.inl q)⟩
  refine codeAny_call_function hr.depth (KX _ _ lk) rfl S.co S.gen rfl (PySem.W.codeRec_of KX hcd) (hb _ _ _ _ ?_)
  refine wpAny_newFunctionEnv_cells S.kind hkind ?_
  rintro env rfl s1 x
  refine ⟨lim.keeps x.toInCall.keep, codeAny_func ?_⟩
  obtain ⟨t, ht, hq⟩ := hbody cdv A outer s H vs Q E hgd (hr.deeper _) hsp
  have I : Inv (cxOf CX0 P w K mg base N qual scope f cdv A outer s H E) [] (start N vs) H s1 := inv_start S hr.hd e0 hl r x
  refine wpAny_mono (ht.run [] s1 (start N vs) H _ I hq) ?_ fun _ _ z => z
  rintro fl s' hs
  cases fl with
  | ret u =>
    obtain ⟨v, σ', H', J, rv, q⟩ := hs
    exact ⟨v, H', J.os, J.bare, J.base, J.hok, rv, q⟩
  | next =>
    obtain ⟨σ', H', J, q⟩ := hs
    exact ⟨V.non, H', J.os, J.bare, J.base, J.hok, rfl, q⟩
  | brk =>
    obtain ⟨_, _, _, q⟩ := hs
    exact q.elim
  | cont =>
    obtain ⟨_, _, _, q⟩ := hs
    exact q.elim
section
variable {X : Cx} {k : Nat} {f : Addr} {fd : FuncData} {ps : List Str} {sp : Sp} {x : Str} {p pos : Pos} {e : Expr} {es : List Expr} {t : TA}
/-- f(e, ..) of such a def -/
theorem pe_callG (F : GOk X.prog X.w X.K X.mg X.base k f fd ps sp) (hgd : X.A.guards = some []) (hr : Room k X.A) (hg : Gl X x) (hm : X.mg x = some (.ref f)) (hk : PySem.W.keepIn X.K (.ref f) = true) (hb : Binds X.K fd ps [])
    (ha : PA X (e :: es) t) (hdb : (x == ("__debug__" : Str)) = false := by decide) (he : starEach (e :: es) X.env = (false, eval e X.env) :: starEach es X.env := by rfl) (hpl : (backTo pos (starEach es X.env)).any (·.1) = false := by rfl) :
    PE X (.Call (.Name x p) (e :: es) [] pos) (tCall sp [] E0 t) := by
  constructor
  intro pins s σ H Q I h
  refine wpAny_Call_Name_kw (ld_glob I hg hm ?_ hdb)
  refine PySem.W.callWith_K (h₀ := X.base) I.ok.mod.kin hk (thn (ha.run pos pins s σ H _ I h) ?_) he hpl
  rintro us s1 ⟨vs, H1, I1, r, q⟩
  refine ⟨I1.kIn, ?_⟩
  have r2 : Vals (vs ++ []) (us ++ []) := r.append .nil
  have hl : (us ++ ([] : List Value)).length = ps.length := by rw [← r2.length]; exact F.len _ _ _ _ q
  refine wpAny_call (codeAny_mono (F.run X.A X.stack s1 H1 ⟨us, []⟩ (us ++ []) (vs ++ []) Q E0 hgd hr I1.env0 (hb s1 us I1.kIn hl) r2 q) ?_)
  intro res s' hq
  cases res with
  | error e => exact False.elim hq
  | ok fl =>
    cases fl with
    | ret u => exact I1.after hq
    | next => exact False.elim hq
    | brk => exact False.elim hq
    | cont => exact False.elim hq
end

/-! ### the end of a law whose def is such a one -/
theorem lawcallG {P : Program} {w : World} {K : PySem.W.Frag} {mg mb : Str → Option Value} {k : Nat} {fa a : Addr} {fd : FuncData} {x : Str} {sp : Sp} {s1 : Shared} {vs : List Value} {ns : List Int}
    (KX : K.In s1.heap) (hns : s1.heap.Ns mainGlobals mg) (hb : s1.heap.Ns builtinsNs mb) (hbb : ∀ x : Str, x ≠ "__name__" → mb x = bootBuiltins x) (hlim : s1.heap.NoLimit) (hg : s1.gens = #[])
    (ha : s1.heap.get? a = some { cls := .type "list", data := .seq vs.toArray }) (hi : IntsAre vs ns) (hl : ns.length ≤ sizeLine) (hr : Room k callerA)
    (F : ∀ base : Heap, K.In base → base.Ns mainGlobals mg → GOk P w K mg base k fa fd [x] sp) (hbind : ∀ (s : Shared) (u : Value), BindsTo s fd ⟨[u], []⟩ [(x, u)])
    (hsp : ∀ H : Hp, Only H → SqL K H a (ns.map V.int) → sp [.ref a] H (fun v _ => v = .bl true) E0) :
    codeAny (model P w) callerA (.call (.ref fa) ⟨[.ref a], []⟩) (fun r s' => r = .ok (.ret (.bool true)) ∧ OldK s1.heap s'.heap ∧ s'.os = s1.os ∧ AllBare s'.gens) s1 := by
  have rv := vals_ints hi
  have lenV := hi.length
  suffices core : ∀ H : Hp, Only H → SqL K H a (ns.map V.int) → HOk P w H s1.heap → (∀ b, H b ≠ none → b = a) → (H a ≠ none → K.lookup a = none) →
      codeAny (model P w) callerA (.call (.ref fa) ⟨[.ref a], []⟩) (fun r s' => r = .ok (.ret (.bool true)) ∧ OldK s1.heap s'.heap ∧ s'.os = s1.os ∧ AllBare s'.gens) s1 by
    cases hk : K.lookup a with
    | some o =>
      have e := KX a o hk
      rw [ha] at e
      cases e
      refine core (fun _ => none) (fun _ => .inl rfl) (.inr ⟨_, vs.toArray, _, hk, rfl, rfl, rfl, ?_, by simpa using rv⟩) ?_ (fun b z => absurd rfl z) fun z => absurd rfl z
      · rw [List.size_toArray, lenV]
        exact hl
      · intro b u z
        exact nomatch (show (none : Option HO) = some u from z)
    | none =>
      have at_ : ∀ b : Addr, (if b = a then some (HO.frz { cls := .type "list", data := .seq vs.toArray } (.lst (ns.map V.int))) else none) ≠ none → b = a := fun b z => by
        by_cases hb : b = a
        · exact hb
        · exact absurd (if_neg hb) z
      refine core (fun b => if b = a then some (.frz { cls := .type "list", data := .seq vs.toArray } (.lst (ns.map V.int))) else none) (fun b => ?_) (.inl (.inr ⟨_, if_pos rfl⟩)) (fun b u z => ?_) at_ fun _ => hk
      · by_cases hb : b = a
        · exact .inr ⟨_, _, if_pos hb⟩
        · exact .inl (if_neg hb)
      · have hb : b = a := at_ b (by rw [show (if b = a then some (HO.frz { cls := .type "list", data := .seq vs.toArray } (.lst (ns.map V.int))) else none) = some u from z]; simp)
        have z' := (if_pos hb).symm.trans z
        cases z'
        subst hb
        exact ⟨ha, by rw [List.length_map]; exact hl, vs, _, rv, ha⟩
  intro H hO hS hok hA hK
  have notA : ∀ {b : Addr} {o : Obj}, s1.heap.get? b = some o → (b = a → False) → (hidT s1.heap H).get? b = some o := fun {b o} e n => hidT_get e (by
    cases q : H b with
    | none => rfl
    | some u => exact (n (hA b (by rw [q]; simp))).elim)
  have nsK : ∀ {b : Addr} {m : Str → Option Value}, s1.heap.Ns b m → (hidT s1.heap H).Ns b m := by
    rintro b m ⟨o, es, ep, e, d, r⟩
    refine ⟨o, es, ep, notA e ?_, d, r⟩
    rintro rfl
    rw [ha] at e
    cases e
    exact nomatch (show Data.seq vs.toArray _ = Data.dict es ep from d)
  have hKb : K.In (hidT s1.heap H) := fun b o e => by
    cases q : H b with
    | none => exact hidT_get (KX b o e) q
    | some u =>
      have e' : b = a := hA b (by rw [q]; simp)
      subst e'
      rw [hK (by rw [q]; simp)] at e
      cases e
  have hM : Mod K mg (hidT s1.heap H) := ⟨hKb, nsK hns, ⟨mb, nsK hb, hbb⟩, match hlim with | ⟨mc, h1, h2⟩ => ⟨mc, nsK h1, h2⟩⟩
  have e0 : Env0 P w K mg (hidT s1.heap H) callerA [] s1 H := ⟨rfl, hM, fun b o e => of_hidT e, Nat.le_of_eq (hidT_size _ _), trivial, fun b hb => (nomatch (show b ∈ ([] : List Addr) from hb)), hok, .of_eq hg⟩
  refine codeAny_mono ((F _ hKb (nsK hns)).run callerA [] s1 H ⟨[.ref a], []⟩ [.ref a] [.ref a] _ _ rfl hr e0 (hbind s1 (.ref a)) (.cons rfl .nil) (hsp H hO hS)) ?_
  intro r s' h
  cases r with
  | error e => exact False.elim h
  | ok fl =>
    cases fl with
    | next => exact False.elim h
    | brk => exact False.elim h
    | cont => exact False.elim h
    | ret u =>
      obtain ⟨v, H', os, bare, un, hok', r', q⟩ := h
      have q' : v = .bl true := q
      subst q'
      obtain rfl : u = Value.bool true := r'
      refine ⟨rfl, OldK.of_keep ?_, os, bare⟩
      intro b o e
      cases q : H b with
      | none => exact un.keep b o e q (by intro z; exact nomatch (show b ∈ ([] : List Addr) from z)) (by simp)
      | some u =>
        cases hO b with
        | inl z => rw [q] at z; cases z
        | inr z =>
          obtain ⟨ob, xs, z⟩ := z
          obtain ⟨e1, _⟩ := hok b _ z
          obtain ⟨e2, _⟩ := hok' b _ (un.frzs b ob _ z)
          rw [e] at e1
          cases e1
          exact e2
theorem walkG {l : PySem.W.OpenLaw} {n k : Nat} {q : Program} {loose : List Str} {XP : (Str → Option Value) → Heap → Prop} {YP : World → Heap → Prop} {d : DefRec} {x : Str}
    (hn : l.most = some n) (hn2 : n ≤ sizeLine) (hdf : d.params.defaults = []) (hr : Room k callerA)
    (F : ∀ (w : World) (mg : Str → Option Value) (fa : Addr) (h : Heap), YP w h → h.Ns mainGlobals mg → mg d.name = some (.ref fa) →
      ∃ (K : PySem.W.Frag) (fd : FuncData) (sp : Sp), K.In h ∧ (∀ (s : Shared) (u : Value), BindsTo s fd ⟨[u], []⟩ [(x, u)]) ∧
        (∀ (H : Hp) (a : Addr) (ns : List Int), ns.length ≤ n → Only H → SqL K H a (ns.map V.int) → sp [.ref a] H (fun v _ => v = .bl true) E0) ∧
        ∀ base : Heap, K.In base → base.Ns mainGlobals mg → GOk l.prog w K mg base k fa fd [x] sp) :
    PySem.W.WalkO q loose XP YP l.row.toRowW d [] (fun f vs => PySem.call f vs) := by
  refine Att.attach_call hn hdf ?_
  intro w s0 s1 mg mb fa o pm cd doc a vs ns G Y ho hd hcd hmg hobj hints hlen hg
  obtain ⟨K, fd, sp, KX, hb, hsp, hF⟩ := F w mg fa _ Y G.T.g hmg
  exact lawcallG KX G.T.g G.T.b G.T.builtins G.T.nolimit hg hobj hints (Nat.le_trans hlen hn2) hr hF hb fun H hO hS => hsp H a ns hlen hO hS
end K53
end

section
set_option Elab.async false
set_option linter.all false
set_option maxRecDepth 100000
/-! K53, the layer's additions, part 3: {k: v for x in xs} whose keys are tuples of ints. -/
namespace K53
open PySem PySem.Spec PyProof.Rows L2
/-- one entry of such a dict -/
theorem putT_ok {X : Cx} {pins : List (Addr × Obj)} {σ : L2.St} {H : Hp} {s : Shared} {E : Value → Shared → Prop} {D b : Addr} {kvs : List (List Key × V)} {k : List Key} {v : V} {r : Value} {Q : Unit → Shared → Prop} (hu : X.A.units + 1 < cLine) (I : Inv X pins σ H s)
    (hD : H D = some (.dT kvs)) (eb : H b = some (.tup (k.map kV))) (hz : kvs.length < sizeLine) (rv : RelV v r) (h : ∀ s', Inv X pins σ (upd H D (.dT (putK kvs k v))) s' → Q () s') : wpAny (model X.prog X.w) X.A (dictSet D (.ref b) r) Q E s := by
  obtain ⟨z, hd, xs, rel, dd⟩ := dt_of I.hok hD
  have hx : xs.length ≤ sizeLine := by
    rw [← Paired.length rel]
    exact z
  have hl : (putK kvs k v).length ≤ sizeLine := Nat.le_trans (length_putK kvs k v) hz
  refine wpAny_dictSet_heap (hsz := hx) (show X.A.units < cLine by omega) (key_of I.hok eb) dd ?_
  intro h' dd' hs
  obtain ⟨q, es, ep, hq, h2, h3, h4, _, h5⟩ := dd'
  refine h _ (d_write I (by rw [hD]; trivial) hs ⟨q, hq⟩ ⟨hl, hd, _, KT.keeps (rel.put k eb rv) ?_, q, es, ep, hq, h2, h3, h4, h5⟩)
  intro c ys ec
  rw [upd_ne (ne_of ec hD (by intro z; cases z))]
  exact ec

section
variable {X : Cx}
/-- an attribute read within a comprehension's block (K said outright) -/
theorem pe_fldB {K : PySem.W.Frag} {e : Expr} {f : Str} {pos : Pos} {ta : TE} (hK : X.K = K) (he : PE X e ta) (hb : attributeBase e f X.env (eval e X.env) = eval e X.env) : PE X (.Attribute e f pos) (tFld K ta f) := by
  subst hK
  exact pe_fld he hb
theorem ix_tupB {K : PySem.W.Frag} (hK : X.K = K) : IxR X (rIxT K) := by
  subst hK
  exact ix_tup
/-- {k: v for x in ..}: D the new dict, its keys tuples of ints and texts -/
def tDcT (wi : TI) (g : TG) (tk tv : TE) (vs : List Nat) : TE := fun σ H Q => wi σ H fun J H1 => ∀ D, H1 D = none → ∃ W : Nat → Nat → Hp → Prop, (∃ m, W 0 m (upd H1 D (.dT []))) ∧ ∀ i m H, W i m H →
  (J.stop i H ∧ Q (.ref D) H) ∨ (J.go i H ∧ ∃ Nx : Hp → Prop, (∀ H', Nx H' → ∃ m', m' < m ∧ W (i + 1) m' H') ∧ ∀ x H', J.yld i H x H' → g x (wipe σ vs) H' fun σ2 H2 => wipe σ2 vs = wipe σ vs ∧
    tk σ2 H2 fun y H4 => tv σ2 H4 fun z H5 => ∃ (kvs : List (List Key × V)) (k : List Key) (b : Addr), y = .ref b ∧ H5 b = some (.tup (k.map kV)) ∧ H5 D = some (.dT kvs) ∧ kvs.length < sizeLine ∧ Nx (upd H5 D (.dT (putK kvs k z))))
theorem pe_dcT {kx vx tg iter : Expr} {scope : Scope} {own : List (Str × Nat)} {pos : Pos} {wi : TI} {g : TG} {tk tv : TE} (hu : X.A.units + 1 < cLine) (hc : X.calm = true) (hN : X.N.Nodup) (hi : PI X tg iter wi) (ok : BlkOk X.N X.env.scope scope own)
    (hg : ∀ (s : Shared) (H : Hp) (C : Addr) (cl : List (Str × Addr)) (fp : List Addr), PG (X.blk s H scope (compEnvC scope cl C X.env) fp) tg g)
    (hk : ∀ (s : Shared) (H : Hp) (C : Addr) (cl : List (Str × Addr)) (fp : List Addr), PE (X.blk s H scope (compEnvC scope cl C X.env) fp) kx tk)
    (he : ∀ (s : Shared) (H : Hp) (C : Addr) (cl : List (Str × Addr)) (fp : List Addr), PE (X.blk s H scope (compEnvC scope cl C X.env) fp) vx tv) (hs : ∀ x, foldedSetIterable iter X.env x = pure x := by intro _; rfl) :
    PE X (.DictComp kx vx [⟨tg, iter, [], 0⟩] scope pos) (tDcT wi g tk tv (own.map (·.2))) := by
  constructor
  intro pins s σ H Q I h
  rw [arm_eval_DictComp]
  have hfree : ∀ y ∈ scope.names, y.2 = .free → ∃ c, X.env.cells.lookup y.1 = some c := fun y hy e => (ok.free y hy e).elim (fun k => I.ok.has _ (.inl k)) fun k => I.ok.has _ (.inr k)
  refine wpAny_comprehension_free (use := none) rfl hs (closure_ok hfree) ok.kind (fun y hy e => by rw [ok.uniq y hy, e]) (thn (hi.run pins s σ H _ I h) fun xv s1 hx => thn hx ?_)
  rintro itv s2 ⟨it, fp, tn, J, H2, rfl, I2, T, st2, f2, q⟩
  refine wpAny_newObj_type (newEnv_comp ?_)
  generalize hD : s2.heap.objs.size = D
  have hDn : H2 D = none := I2.hok.fresh (Nat.le_of_eq hD)
  obtain ⟨W, ⟨m0, w0⟩, turn⟩ := q D hDn
  generalize hs3 : ({ s2 with heap := s2.heap.push { cls := .type "dict", data := .dict #[] } } : Shared) = s3
  have h3 : s3.heap = s2.heap.push { cls := .type "dict", data := .dict #[] } := by rw [← hs3]
  have I3 : Inv X pins σ (upd H2 D (.dT [])) s3 := by
    rw [← hs3]
    refine I2.laid (t' := s2.toks) (fun b o e => Heap.get?_push_of_some _ e) (Nat.le_of_eq hD) ?_
    rw [← hD]
    exact dt_empty s2.heap I2.big
  have f3 : ∀ b ∈ fp, FpOk X pins (upd H2 D (.dT [])) b ∧ b < s3.heap.objs.size := fun b hb => by
    obtain ⟨o, e, _⟩ := T.obj _ _ st2 b hb
    have hlt := Heap.lt_size e
    refine ⟨⟨?_, (f2 b hb).2⟩, ?_⟩
    · rw [upd_ne (by rw [← hD]; exact Nat.ne_of_lt hlt)]
      exact (f2 b hb).1
    · rw [h3, Heap.size_push]
      exact Nat.lt_succ_of_lt hlt
  have st3 : tn 0 s3.heap := T.keep _ _ _ st2 fun b _ o e => by
    rw [h3]
    exact Heap.get?_push_of_some _ e
  have I4 := block_start I3 ok hN f3
  generalize hcl : cellsFrom (s3.heap.objs.size + 1) scope.names (cloFrom X.env.cells scope.names []) = cl at I4
  have pg := hg s3 (upd H2 D (.dT [])) s3.heap.objs.size cl fp
  have pk := hk s3 (upd H2 D (.dT [])) s3.heap.objs.size cl fp
  have pe := he s3 (upd H2 D (.dT [])) s3.heap.objs.size cl fp
  show codeAny _ _ (.compStart (.DictComp kx vx [⟨tg, iter, [], 0⟩] scope pos) 0 (.ref it) (.ref D) (compEnvC scope cl s3.heap.objs.size X.env))
    (compPost (model X.prog X.w) X.A X.xe none _ (.ref D) s3.heap.objs.size) { s3 with heap := pushCells (s3.heap.push { cls := .type "dict", data := .dict #[] }) scope.names }
  have nfp : ∀ b ∈ fp, (upd H2 D (.dT [])) b = none := fun b hb => (f3 b hb).1.1
  generalize hce : compEnvC scope cl s3.heap.objs.size X.env = ce at I4 pg pk pe ⊢
  have cL : ce.locals = s3.heap.objs.size := by
    subst hce
    rfl
  generalize hH3 : upd H2 D (.dT []) = H3 at I3 I4 pg pk pe w0 nfp f3
  generalize hs4 : ({ s3 with heap := pushCells (s3.heap.push { cls := .type "dict", data := .dict #[] }) scope.names } : Shared) = s4 at I4 ⊢
  have st4 : tn 0 s4.heap := T.keep _ _ _ st3 fun b _ o e => by
    rw [← hs4]
    exact pushCells_keeps _ _ _ _ (Heap.get?_push_of_some _ e)
  have stat : ∀ {σ' : L2.St} {H' : Hp} {s' : Shared}, Inv (X.blk s3 H3 scope ce fp) [] σ' H' s' → (∀ b ∈ fp, H' b = none) → ∀ b ∈ fp, FpOk (X.blk s3 H3 scope ce fp) [] H' b := by
    intro σ' H' s' I' hn b hb
    refine ⟨hn b hb, (I'.ok.exf b hb).1, I'.ok.exfs b hb, .inl hb, fun x c e => (I'.ok.exf b hb).2 x c e, ?_⟩
    intro p hp
    exact nomatch (show p ∈ ([] : List (Addr × Obj)) from hp)
  have loop : codeAny (model X.prog X.w) X.A (.compLoop (.DictComp kx vx [⟨tg, iter, [], 0⟩] scope pos) 0 (.ref it) (.ref D) ce) (compPost (model X.prog X.w) X.A X.xe none (EP X pins σ Q) (.ref D) s3.heap.objs.size) s4 := by
    refine compLoop_anyD (fun n s' => ∃ i H', Inv (X.blk s3 H3 scope ce fp) [] (wipe σ (own.map (·.2))) H' s' ∧ tn i s'.heap ∧ (∀ b ∈ fp, H' b = none) ∧ W i n H') ?_ m0 ⟨0, H3, I4, st4, nfp, w0⟩
    rintro n s5 ⟨i, H5, I5, st5, n5, w5⟩
    rcases turn i n H5 w5 with ⟨stop, qq⟩ | ⟨go, Nx, hNx, step⟩
    · refine thnF (T.done (X.blk s3 H3 scope ce fp) rfl rfl rfl hc i [] s5 _ H5 (fun _ _ => False) I5 (stat I5 n5) st5 stop) ?_
      rintro r s6 ⟨rfl, I6⟩
      have I7 : Inv X pins σ H5 s6 := I3.call' (ch := fp) I6.os I6.base I6.hok I6.bare fun b hb => ⟨(f3 b hb).1.2.2.2.1, (f3 b hb).1.2.1, (f3 b hb).1.2.2.2.2.1, (f3 b hb).1.2.2.2.2.2⟩
      have nC : H5 s3.heap.objs.size = none := by
        rw [← cL]
        exact I6.free
      obtain ⟨m, hn, _⟩ := I6.loc
      have hn2 : s6.heap.Ns s3.heap.objs.size m := by
        rw [← cL]
        exact hn
      obtain ⟨g0, g1, g2, g3, g4, g5⟩ := I3.fpOk (Nat.le_refl _) nC
      refine ⟨m, hn2, fun h'' sb => ?_⟩
      exact ⟨.ref D, H5, I7.turned (t' := s6.toks) (fun b o hb e => (sb.2 b hb).trans e) g0 g1 g3 g4 g5, rfl, qq⟩
    · refine thnF (T.item (X.blk s3 H3 scope ce fp) rfl rfl rfl hc i [] s5 _ H5 (fun _ _ => False) I5 (stat I5 n5) st5 go) ?_
      rintro r s6 ⟨u, rfl, h6⟩
      refine thnF h6 ?_
      rintro _ s7 ⟨x, H7, I7, r7, y7, st7, n7⟩
      have I7' := I7.pinned (stat I7 n7) (T.obj _ _ st7)
      refine thnF (pg.run _ s7 _ H7 x u _ I7' r7 (step x H7 y7)) ?_
      rintro _ s8 ⟨σ8, H8, I8, hw8, q8⟩
      refine wpAny_tests_nil ?_
      rw [if_pos rfl]
      refine thnF (pk.run _ s8 σ8 H8 _ I8 q8) ?_
      rintro z s10 ⟨yk, H10, I10, r10, q10⟩
      refine thnF (pe.run _ s10 σ8 H10 _ I10 q10) ?_
      rintro z2 s11 ⟨yv, H11, I11, r11, kvs, k, b, rfl, eb, hD11, hz11, nx⟩
      cases r10
      refine putT_ok (X := X.blk s3 H3 scope ce fp) hu I11 hD11 eb hz11 r11 ?_
      intro s12 I12
      obtain ⟨m', hm, w'⟩ := hNx _ nx
      have hl : (wipe σ (own.map (·.2))).length = σ8.length := by
        rw [← hw8]
        exact wipe_length _ _
      have pin' : ∀ b ∈ fp, ∀ o, s7.heap.get? b = some o → s12.heap.get? b = some o ∧ (upd H11 D (.dT (putK kvs k yv))) b = none := fun b hb o e => by
        have z := I12.pin (b, o) (List.mem_append_right _ (List.mem_append_right _ (mem_pinsAt hb e)))
        exact ⟨z.1, z.2.1⟩
      refine ⟨m', hm, i + 1, _, (I12.unpinned (pins := [])).weak hl ?_, T.keep _ _ _ st7 fun b hb o e => (pin' b hb o e).1, ?_, w'⟩
      · intro j v e
        rw [← hw8] at e
        exact (wipe_some e).1
      · intro b hb
        obtain ⟨o, e, _⟩ := T.obj _ _ st7 b hb
        exact (pin' b hb o e).2
  exact codeAny_compStart_dict loop (T.self X.A 0 _ _ _ st4 loop)
/-- over a list that the block leaves as it is -/
theorem dcT_list {K : PySem.W.Frag} {a : Addr} {xs : List V} {g : TG} {tk tv : TE} {vs : List Nat} {σ : L2.St} {H1 : Hp} {D : Addr} {Qd : Hp → Prop} (Pv : Nat → Hp → Prop) (h0 : Pv 0 (upd H1 D (.dT []))) (hl : ∀ i H, i ≤ xs.length → Pv i H → SqL K H a xs)
    (hs : ∀ i x H, xs[i]? = some x → Pv i H → g x (wipe σ vs) H fun σ2 H2 => wipe σ2 vs = wipe σ vs ∧
      tk σ2 H2 fun y H4 => tv σ2 H4 fun z H5 => ∃ (kvs : List (List Key × V)) (k : List Key) (b : Addr), y = .ref b ∧ H5 b = some (.tup (k.map kV)) ∧ H5 D = some (.dT kvs) ∧ kvs.length < sizeLine ∧ Pv (i + 1) (upd H5 D (.dT (putK kvs k z)))) (hd : ∀ H, Pv xs.length H → Qd H) :
    ∃ W : Nat → Nat → Hp → Prop, (∃ m, W 0 m (upd H1 D (.dT []))) ∧ ∀ i m H, W i m H →
      ((Itl K a).stop i H ∧ Qd H) ∨ ((Itl K a).go i H ∧ ∃ Nx : Hp → Prop, (∀ H', Nx H' → ∃ m', m' < m ∧ W (i + 1) m' H') ∧ ∀ x H', (Itl K a).yld i H x H' → g x (wipe σ vs) H' fun σ2 H2 => wipe σ2 vs = wipe σ vs ∧
        tk σ2 H2 fun y H4 => tv σ2 H4 fun z H5 => ∃ (kvs : List (List Key × V)) (k : List Key) (b : Addr), y = .ref b ∧ H5 b = some (.tup (k.map kV)) ∧ H5 D = some (.dT kvs) ∧ kvs.length < sizeLine ∧ Nx (upd H5 D (.dT (putK kvs k z)))) := by
  refine ⟨fun i m H => m + i = xs.length ∧ Pv i H, ⟨xs.length, rfl, h0⟩, ?_⟩
  rintro i m H ⟨hm, p⟩
  have q := hl i H (by omega) p
  cases m with
  | zero =>
    have e : i = xs.length := by omega
    subst e
    exact .inl ⟨⟨xs, q, Nat.le_refl _⟩, hd H p⟩
  | succ m =>
    have hlt : i < xs.length := by omega
    refine .inr ⟨⟨xs, xs[i], q, List.getElem?_eq_getElem hlt⟩, Pv (i + 1), fun H' p' => ⟨m, Nat.lt_succ_self m, by omega, p'⟩, ?_⟩
    rintro x H' ⟨rfl, y⟩
    exact hs i x _ (y xs q) p
end
end K53
end

section
set_option Elab.async false
set_option linter.all false
set_option maxRecDepth 100000
/-! K53: the text by places, the defs' names by slot. Printed by mkterm.py. -/
namespace K53
open PySem PySem.Spec PyProof.Rows L2
def top (i : Nat) : Stmt := PySem.Challenge.pw_leastmakers_k53_whole_great_numbers_and.main.body.getD i (.Pass ⟨0, 0, 0, 0⟩)
abbrev s_common_divisor : Stmt := top 2
abbrev N_common_divisor : List Str := ["one", "other", "found", "rest"]
theorem sc_common_divisor : FnScope N_common_divisor ["one", "other"] (defScope s_common_divisor) := ⟨rfl, rfl, rfl, by decide +kernel, rfl, by decide +kernel, by decide +kernel⟩
abbrev s_common_multiple : Stmt := top 3
abbrev N_common_multiple : List Str := ["one", "other"]
theorem sc_common_multiple : FnScope N_common_multiple ["one", "other"] (defScope s_common_multiple) := ⟨rfl, rfl, rfl, by decide +kernel, rfl, by decide +kernel, by decide +kernel⟩
abbrev s_round_number : Stmt := top 6
abbrev N_round_number : List Str := ["program", "found", "step"]
theorem sc_round_number : FnScope N_round_number ["program"] (defScope s_round_number) := ⟨rfl, rfl, rfl, by decide +kernel, rfl, by decide +kernel, by decide +kernel⟩
abbrev s_free_step : Stmt := top 7
abbrev N_free_step : List Str := ["step", "counter"]
theorem sc_free_step : FnScope N_free_step ["step", "counter"] (defScope s_free_step) := ⟨rfl, rfl, rfl, by decide +kernel, rfl, by decide +kernel, by decide +kernel⟩
abbrev s_Round_init : Stmt := inClass (top 8) 0
abbrev N_Round_init : List Str := ["self", "steps", "fall", "need", "places"]
theorem sc_Round_init : FnScope N_Round_init ["self", "steps", "fall", "need", "places"] (defScope s_Round_init) := ⟨rfl, rfl, rfl, by decide +kernel, rfl, by decide +kernel, by decide +kernel⟩
abbrev s_Round_times_from : Stmt := inClass (top 8) 1
abbrev N_Round_times_from : List Str := ["self", "counter"]
theorem sc_Round_times_from : FnScope N_Round_times_from ["self", "counter"] (defScope s_Round_times_from) := ⟨rfl, rfl, rfl, by decide +kernel, rfl, by decide +kernel, by decide +kernel⟩
abbrev s_round_at : Stmt := top 9
abbrev N_round_at : List Str := ["program", "place", "rest", "many", "here", "left", "fall", "need", "places", "step", "more"]
theorem sc_round_at : FnScope N_round_at ["program", "place", "rest", "many"] (defScope s_round_at) := ⟨rfl, rfl, rfl, by decide +kernel, rfl, by decide +kernel, by decide +kernel⟩
abbrev s_Ways_init : Stmt := inClass (top 10) 0
abbrev N_Ways_init : List Str := ["self", "program", "begins", "place", "rest", "begin"]
theorem sc_Ways_init : FnScope N_Ways_init ["self", "program"] (defScope s_Ways_init) := ⟨rfl, rfl, rfl, by decide +kernel, rfl, by decide +kernel, by decide +kernel⟩
abbrev s_Walk_init : Stmt := inClass (top 11) 0
abbrev N_Walk_init : List Str := ["self", "ways", "place", "counter"]
theorem sc_Walk_init : FnScope N_Walk_init ["self", "ways", "place", "counter"] (defScope s_Walk_init) := ⟨rfl, rfl, rfl, by decide +kernel, rfl, by decide +kernel, by decide +kernel⟩
abbrev s_Walk_step : Stmt := inClass (top 11) 1
abbrev N_Walk_step : List Str := ["self"]
theorem sc_Walk_step : FnScope N_Walk_step ["self"] (defScope s_Walk_step) := ⟨rfl, rfl, rfl, by decide +kernel, rfl, by decide +kernel, by decide +kernel⟩
abbrev s_Walk_is_over : Stmt := inClass (top 11) 2
abbrev N_Walk_is_over : List Str := ["self"]
theorem sc_Walk_is_over : FnScope N_Walk_is_over ["self"] (defScope s_Walk_is_over) := ⟨rfl, rfl, rfl, by decide +kernel, rfl, by decide +kernel, by decide +kernel⟩
abbrev s_Walk_is_refused : Stmt := inClass (top 11) 3
abbrev N_Walk_is_refused : List Str := ["self", "step"]
theorem sc_Walk_is_refused : FnScope N_Walk_is_refused ["self"] (defScope s_Walk_is_refused) := ⟨rfl, rfl, rfl, by decide +kernel, rfl, by decide +kernel, by decide +kernel⟩
abbrev s_Walk_spot : Stmt := inClass (top 11) 4
abbrev N_Walk_spot : List Str := ["self"]
theorem sc_Walk_spot : FnScope N_Walk_spot ["self"] (defScope s_Walk_spot) := ⟨rfl, rfl, rfl, by decide +kernel, rfl, by decide +kernel, by decide +kernel⟩
abbrev s_Walk_round_here : Stmt := inClass (top 11) 5
abbrev N_Walk_round_here : List Str := ["self"]
theorem sc_Walk_round_here : FnScope N_Walk_round_here ["self"] (defScope s_Walk_round_here) := ⟨rfl, rfl, rfl, by decide +kernel, rfl, by decide +kernel, by decide +kernel⟩
abbrev s_Walk_times_here : Stmt := inClass (top 11) 6
abbrev N_Walk_times_here : List Str := ["self", "told"]
theorem sc_Walk_times_here : FnScope N_Walk_times_here ["self"] (defScope s_Walk_times_here) := ⟨rfl, rfl, rfl, by decide +kernel, rfl, by decide +kernel, by decide +kernel⟩
abbrev s_Walk_go_round : Stmt := inClass (top 11) 7
abbrev N_Walk_go_round : List Str := ["self", "times", "told"]
theorem sc_Walk_go_round : FnScope N_Walk_go_round ["self", "times"] (defScope s_Walk_go_round) := ⟨rfl, rfl, rfl, by decide +kernel, rfl, by decide +kernel, by decide +kernel⟩
abbrev s_Walk_go_on : Stmt := inClass (top 11) 8
abbrev N_Walk_go_on : List Str := ["self", "step", "more"]
theorem sc_Walk_go_on : FnScope N_Walk_go_on ["self"] (defScope s_Walk_go_on) := ⟨rfl, rfl, rfl, by decide +kernel, rfl, by decide +kernel, by decide +kernel⟩
abbrev s_course : Stmt := top 12
abbrev N_course : List Str := ["ways", "place", "number", "walk", "count", "lows", "times"]
theorem sc_course : FnScope N_course ["ways", "place", "number"] (defScope s_course) := ⟨rfl, rfl, rfl, by decide +kernel, rfl, by decide +kernel, by decide +kernel⟩
abbrev s_answer : Stmt := top 13
abbrev N_answer : List Str := ["program", "number"]
theorem sc_answer : FnScope N_answer ["program", "number"] (defScope s_answer) := ⟨rfl, rfl, rfl, by decide +kernel, rfl, by decide +kernel, by decide +kernel⟩
abbrev s_length : Stmt := top 14
abbrev N_length : List Str := ["program", "number", "word", "count", "more"]
theorem sc_length : FnScope N_length ["program", "number"] (defScope s_length) := ⟨rfl, rfl, rfl, by decide +kernel, rfl, by decide +kernel, by decide +kernel⟩
abbrev s_go_far : Stmt := top 15
abbrev N_go_far : List Str := ["walk", "count", "left", "seen", "is_refused", "is_cut", "told", "times", "whole"]
theorem sc_go_far : FnScope N_go_far ["walk", "count"] (defScope s_go_far) := ⟨rfl, rfl, rfl, by decide +kernel, rfl, by decide +kernel, by decide +kernel⟩
abbrev s_walk_by : Stmt := top 16
abbrev N_walk_by : List Str := ["program", "number", "count", "walk"]
theorem sc_walk_by : FnScope N_walk_by ["program", "number", "count"] (defScope s_walk_by) := ⟨rfl, rfl, rfl, by decide +kernel, rfl, by decide +kernel, by decide +kernel⟩
abbrev s_stands : Stmt := top 17
abbrev N_stands : List Str := ["program", "number", "count"]
theorem sc_stands : FnScope N_stands ["program", "number", "count"] (defScope s_stands) := ⟨rfl, rfl, rfl, by decide +kernel, rfl, by decide +kernel, by decide +kernel⟩
abbrev s_law_deck : Stmt := top 19
abbrev N_law_deck : List Str := ["_law_script", "_law_cells", "_law_great", "_law_cell"]
theorem sc_law_deck : FnScope N_law_deck ["_law_script"] (defScope s_law_deck) := ⟨rfl, rfl, rfl, by decide +kernel, rfl, by decide +kernel, by decide +kernel⟩
abbrev s_law_draw : Stmt := top 20
abbrev N_law_draw : List Str := ["_law_deck_here", "_law_many", "_law_left", "_law_cell", "_law_mixed_here"]
theorem sc_law_draw : FnScope N_law_draw ["_law_deck_here", "_law_many"] (defScope s_law_draw) := ⟨rfl, rfl, rfl, by decide +kernel, rfl, by decide +kernel, by decide +kernel⟩
abbrev s_law_one : Stmt := top 21
abbrev N_law_one : List Str := ["_law_deck_here", "_law_items"]
theorem sc_law_one : FnScope N_law_one ["_law_deck_here", "_law_items"] (defScope s_law_one) := ⟨rfl, rfl, rfl, by decide +kernel, rfl, by decide +kernel, by decide +kernel⟩
abbrev s_law_far : Stmt := top 22
abbrev N_law_far : List Str := ["_law_deck_here", "_law_many", "_law_found", "_law_turn"]
theorem sc_law_far : FnScope N_law_far ["_law_deck_here", "_law_many"] (defScope s_law_far) := ⟨rfl, rfl, rfl, by decide +kernel, rfl, by decide +kernel, by decide +kernel⟩
abbrev s_law_number : Stmt := top 23
abbrev N_law_number : List Str := ["_law_deck_here", "_law_most", "_law_found"]
theorem sc_law_number : FnScope N_law_number ["_law_deck_here", "_law_most"] (defScope s_law_number) := ⟨rfl, rfl, rfl, by decide +kernel, rfl, by decide +kernel, by decide +kernel⟩
abbrev s_law_mixed : Stmt := top 24
abbrev N_law_mixed : List Str := ["_law_deck_here", "_law_items", "_law_left", "_law_found", "_law_turn"]
theorem sc_law_mixed : FnScope N_law_mixed ["_law_deck_here", "_law_items"] (defScope s_law_mixed) := ⟨rfl, rfl, rfl, by decide +kernel, rfl, by decide +kernel, by decide +kernel⟩
abbrev s_law_step_drawn : Stmt := top 25
abbrev N_law_step_drawn : List Str := ["_law_deck_here", "_law_word", "_law_place", "_law_many", "_law_sizes", "_law_near", "_law_to", "_law_k", "_law_last", "_law_other", "_law_m", "_law_turn"]
theorem sc_law_step_drawn : FnScope N_law_step_drawn ["_law_deck_here", "_law_word", "_law_place", "_law_many", "_law_sizes"] (defScope s_law_step_drawn) := ⟨rfl, rfl, rfl, by decide +kernel, rfl, by decide +kernel, by decide +kernel⟩
abbrev s_law_program : Stmt := top 26
abbrev N_law_program : List Str := ["_law_deck_here", "_law_many", "_law_sizes", "_law_words", "_law_found", "_law_place", "_law_word"]
theorem sc_law_program : FnScope N_law_program ["_law_deck_here"] (defScope s_law_program) := ⟨rfl, rfl, rfl, by decide +kernel, rfl, by decide +kernel, by decide +kernel⟩
abbrev s_law_loops : Stmt := top 27
abbrev N_law_loops : List Str := ["_law_deck_here", "_law_found", "_law_rings", "_law_size_here", "_law_first", "_law_k", "_law_other", "_law_m", "_law_last", "_law_rest"]
theorem sc_law_loops : FnScope N_law_loops ["_law_deck_here"] (defScope s_law_loops) := ⟨rfl, rfl, rfl, by decide +kernel, rfl, by decide +kernel, by decide +kernel⟩
abbrev s_law_any : Stmt := top 28
abbrev N_law_any : List Str := ["_law_deck_here"]
theorem sc_law_any : FnScope N_law_any ["_law_deck_here"] (defScope s_law_any) := ⟨rfl, rfl, rfl, by decide +kernel, rfl, by decide +kernel, by decide +kernel⟩
abbrev s_law_common : Stmt := top 29
abbrev N_law_common : List Str := ["_law_one_here", "_law_other"]
theorem sc_law_common : FnScope N_law_common ["_law_one_here", "_law_other"] (defScope s_law_common) := ⟨rfl, rfl, rfl, by decide +kernel, rfl, by decide +kernel, by decide +kernel⟩
abbrev s_law_size : Stmt := top 30
abbrev N_law_size : List Str := ["_law_program_here", "_law_found", "_law_step"]
theorem sc_law_size : FnScope N_law_size ["_law_program_here"] (defScope s_law_size) := ⟨rfl, rfl, rfl, by decide +kernel, rfl, by decide +kernel, by decide +kernel⟩
abbrev s_law_free : Stmt := top 31
abbrev N_law_free : List Str := ["_law_program_here", "_law_place", "_law_counter", "_law_size_here", "_law_at", "_law_lower", "_law_need", "_law_rest", "_law_gone", "_law_step"]
theorem sc_law_free : FnScope N_law_free ["_law_program_here", "_law_place", "_law_counter", "_law_size_here"] (defScope s_law_free) := ⟨rfl, rfl, rfl, by decide +kernel, rfl, by decide +kernel, by decide +kernel⟩
abbrev s_law_run : Stmt := top 32
abbrev N_law_run : List Str := ["_law_program_here", "_law_number_here", "_law_count", "_law_size_here", "_law_place", "_law_counter", "_law_gone", "_law_refused", "_law_seen", "_law_low", "_law_turn", "_law_step", "_law_key", "_law_steps", "_law_fall", "_law_need", "_law_times", "_law_more"]
theorem sc_law_run : FnScope N_law_run ["_law_program_here", "_law_number_here", "_law_count"] (defScope s_law_run) := ⟨rfl, rfl, rfl, by decide +kernel, rfl, by decide +kernel, by decide +kernel⟩
abbrev s_law_answer : Stmt := top 33
abbrev N_law_answer : List Str := ["_law_program_here", "_law_number_here", "_law_place", "_law_counter", "_law_gone", "_law_refused"]
theorem sc_law_answer : FnScope N_law_answer ["_law_program_here", "_law_number_here"] (defScope s_law_answer) := ⟨rfl, rfl, rfl, by decide +kernel, rfl, by decide +kernel, by decide +kernel⟩
abbrev s_law_renumbered : Stmt := top 34
abbrev N_law_renumbered : List Str := ["_law_program_here", "_law_order", "_law_anew", "_law_found", "_law_old", "_law_step", "_law_new", "_law_to"]
theorem sc_law_renumbered : FnScope N_law_renumbered ["_law_program_here", "_law_order"] (defScope s_law_renumbered) := ⟨rfl, rfl, rfl, by decide +kernel, rfl, by decide +kernel, by decide +kernel⟩
abbrev s_law_goes_on : Stmt := top 35
abbrev N_law_goes_on : List Str := ["_law_deck_here", "_law_program_here", "_law_number_here", "_law_count", "_law_word", "_law_steps", "_law_place", "_law_counter", "_law_gone", "_law_refused", "_law_order", "_law_moved", "_law_more", "_law_at", "_law_behind", "_law_all_gone", "_law_all_refused", "_law_found", "_law_own"]
theorem sc_law_goes_on : FnScope N_law_goes_on ["_law_deck_here", "_law_program_here", "_law_number_here", "_law_count", "_law_word", "_law_steps"] (defScope s_law_goes_on) := ⟨rfl, rfl, rfl, by decide +kernel, rfl, by decide +kernel, by decide +kernel⟩
abbrev s_law : Stmt := top 36
abbrev N_law : List Str := ["_law_script", "_law_deck_here", "_law_turn", "_law_program_here", "_law_number_here", "_law_word", "_law_steps", "_law_found", "_law_counts", "_law_count", "_law_own"]
theorem sc_law : FnScope N_law ["_law_script"] (defScope s_law) := ⟨rfl, rfl, rfl, by decide +kernel, rfl, by decide +kernel, by decide +kernel⟩
end K53
end

section
set_option Elab.async false
set_option linter.all false
set_option maxRecDepth 100000
/-! K53: facts of the text, how a def is known to its callers, what stands in the heap. -/
namespace K53
open PySem PySem.Spec PyProof.Rows L2
open K53M (Stp Pg S)
abbrev FnP (K : PySem.W.Frag) (x q : Str) (st : Stmt) (f : Addr) (fd : FuncData) : Prop := FunD K x q (defArgs st) (defBody st) (defScope st) [] [] f fd
/-- what the head tells -/
structure Txt (K : PySem.W.Frag) (mg : Str → Option Value) (cR cY cW : Addr) (tN : Tok) : Prop where
  clRound : Cls K cR
  clWalk : Cls K cW
  clWays : Cls K cY
  nRs : NoAttr K cR "steps"
  nRf : NoAttr K cR "fall"
  nRn : NoAttr K cR "need"
  nRp : NoAttr K cR "places"
  nYp : NoAttr K cY "program"
  nYm : NoAttr K cY "many"
  nYr : NoAttr K cY "rounds"
  nWw : NoAttr K cW "ways"
  nWp : NoAttr K cW "place"
  nWc : NoAttr K cW "counter"
  len_ : mg "len" = none
  max_ : mg "max" = none
  min_ : mg "min" = none
  range_ : mg "range" = none
  tuple_ : mg "tuple" = none
  int_ : mg "int" = none
  sum_ : mg "sum" = none
  list_ : mg "list" = none
  dict_ : mg "dict" = none
  enumerate_ : mg "enumerate" = none
  repr_ : mg "repr" = none
  never : mg "NEVER" = some (.str "never" tN)
/-- a def as its callers know it -/
structure CalOk (P : Program) (w : World) (K : PySem.W.Frag) (mg : Str → Option Value) (base : Heap) (x : Str) (k : Nat) (ps : List Str) (sp : Sp) (f : Addr) (fd : FuncData) : Prop where
  G : FnOk P w K mg base CX0 k f fd ps sp
  m : mg x = some (.ref f)
  kp : PySem.W.keepIn K (.ref f) = true
  b : Binds K fd ps []
structure CalG (P : Program) (w : World) (K : PySem.W.Frag) (mg : Str → Option Value) (base : Heap) (x : Str) (k : Nat) (ps : List Str) (sp : Sp) (f : Addr) (fd : FuncData) : Prop where
  G : GOk P w K mg base k f fd ps sp
  m : mg x = some (.ref f)
  kp : PySem.W.keepIn K (.ref f) = true
  b : Binds K fd ps []
/-- a method -/
structure MetOk (P : Program) (w : World) (K : PySem.W.Frag) (mg : Str → Option Value) (base : Heap) (C : Addr) (x : Str) (k : Nat) (ps : List Str) (sp : Sp) (f : Addr) (fd : FuncData) : Prop where
  G : FnOk P w K mg base CX0 k f fd ps sp
  mt : Meth K C x f
  b : Binds K fd ps []
/-- a class made by its __init__ -/
structure ConOk (P : Program) (w : World) (K : PySem.W.Frag) (mg : Str → Option Value) (base : Heap) (C : Addr) (x : Str) (k : Nat) (ps : List Str) (sp : Sp) (f : Addr) (fd : FuncData) : Prop where
  G : FnOk P w K mg base CX0 k f fd ps sp
  mk_ : Mk K C f
  m : mg x = some (.ref C)
  b : Binds K fd ps []

/-! ### tests -/
theorem itB {b : Bool} {A B : Prop} (h1 : b = true → A) (h0 : b = false → B) : if b = true then A else B := by
  cases b with
  | true => exact h1 rfl
  | false => exact h0 rfl
theorem itD {c A B : Prop} [Decidable c] (h1 : c → A) (h0 : ¬ c → B) : if decide c = true then A else B := itB (fun e => h1 (of_decide_eq_true e)) fun e => h0 (of_decide_eq_false e)
theorem itN {c A B : Prop} [Decidable c] (h1 : ¬ c → A) (h0 : c → B) : if (!decide c) = true then A else B := by
  by_cases h : c
  · rw [decide_eq_true h]
    exact h0 h
  · rw [decide_eq_false h]
    exact h1 h
theorem decT {c : Prop} [Decidable c] (h : c) : decide c = true := decide_eq_true h
theorem vint {i j : Int} : (V.int i = V.int j) ↔ i = j := ⟨fun h => V.int.inj h, fun h => by rw [h]⟩
theorem vstr {i j : Str} : (V.str i = V.str j) ↔ i = j := ⟨fun h => V.str.inj h, fun h => by rw [h]⟩
/-! ### the words -/
def wordS (w : Bool) : Str := if w then "yes" else "no"
def wordO : Option (Bool × Nat) → Str
  | none => "never"
  | some (w, _) => wordS w
theorem ne_add_end : ¬ ("add" : Str) = "end" := by decide +kernel
theorem ne_take_end : ¬ ("take" : Str) = "end" := by decide +kernel
theorem ne_rest_end : ¬ ("rest" : Str) = "end" := by decide +kernel
theorem ne_end_rest : ¬ ("end" : Str) = "rest" := by decide +kernel
theorem ne_add_rest : ¬ ("add" : Str) = "rest" := by decide +kernel
theorem ne_take_rest : ¬ ("take" : Str) = "rest" := by decide +kernel
theorem ne_take_add : ¬ ("take" : Str) = "add" := by decide +kernel
theorem ne_rest_add : ¬ ("rest" : Str) = "add" := by decide +kernel
theorem ne_end_add : ¬ ("end" : Str) = "add" := by decide +kernel
theorem ne_rest_take : ¬ ("rest" : Str) = "take" := by decide +kernel
theorem ne_add_take : ¬ ("add" : Str) = "take" := by decide +kernel
theorem ne_end_take : ¬ ("end" : Str) = "take" := by decide +kernel

/-! ### the heap -/
/-- all but the objects at ex is as it was -/
def SameE (ex : List Addr) (H H' : Hp) : Prop := ∀ b o, ¬ b ∈ ex → H b = some o → H' b = some o
theorem Same.e {ex : List Addr} {H H' : Hp} (h : Same H H') : SameE ex H H' := fun b o _ e => h b o e
theorem SameE.refl (ex : List Addr) (H : Hp) : SameE ex H H := fun _ _ _ e => e
theorem SameE.trans {ex : List Addr} {H H1 H2 : Hp} (a : SameE ex H H1) (b : SameE ex H1 H2) : SameE ex H H2 := fun c o n e => b c o n (a c o n e)
theorem Same.new {H : Hp} {p : Addr} {o : HO} (h : H p = none) : Same H (upd H p o) := fun b u e => by
  rw [upd_ne (ne_of_none e h)]
  exact e
/-- a step of a program -/
def StpAt (H : Hp) (a : Addr) : Stp → Prop
  | .fin w => H a = some (.tup [.str "end", .str (wordS w)])
  | .add k to => H a = some (.tup [.str "add", .int (k : Int), .int (to : Int)])
  | .take k to o => H a = some (.tup [.str "take", .int (k : Int), .int (to : Int), .int (o : Int)])
  | .rest m tos => ∃ b, H a = some (.tup [.str "rest", .int (m : Int), .ref b]) ∧ H b = some (.tup (tos.map fun (t : Nat) => V.int (t : Int)))
/-- a program -/
def PgAt (H : Hp) (a : Addr) (P : Pg) : Prop := ∃ as : List Addr, H a = some (.tup (as.map V.ref)) ∧ as.length = P.length ∧ ∀ (i : Nat) (x : Stp), P[i]? = some x → ∃ b, as[i]? = some b ∧ StpAt H b x
/-- tuples stay -/
def Tups (H H' : Hp) : Prop := ∀ b xs, H b = some (.tup xs) → H' b = some (.tup xs)
theorem Tups.refl (H : Hp) : Tups H H := fun _ _ e => e
theorem Tups.trans {H H1 H2 : Hp} (a : Tups H H1) (b : Tups H1 H2) : Tups H H2 := fun c xs e => b c xs (a c xs e)
theorem Same.tups {H H' : Hp} (h : Same H H') : Tups H H' := fun b _ e => h b _ e
theorem Tups.upd {H : Hp} {p : Addr} {o u : HO} (h : H p = some o) (hn : ∀ xs, o ≠ .tup xs) : Tups H (upd H p u) := fun b xs e => by
  rw [upd_ne (ne_of e h (fun z => hn xs z.symm))]
  exact e
theorem StpAt.mono {H H' : Hp} (t : Tups H H') {a : Addr} {x : Stp} (h : StpAt H a x) : StpAt H' a x := by
  cases x with
  | fin w => exact t _ _ h
  | add k to => exact t _ _ h
  | take k to o => exact t _ _ h
  | rest m tos =>
    obtain ⟨b, h1, h2⟩ := h
    exact ⟨b, t _ _ h1, t _ _ h2⟩
theorem PgAt.mono {H H' : Hp} (t : Tups H H') {a : Addr} {P : Pg} (h : PgAt H a P) : PgAt H' a P := by
  obtain ⟨as, h1, h2, h3⟩ := h
  refine ⟨as, t _ _ h1, h2, fun i x e => ?_⟩
  obtain ⟨b, e1, e2⟩ := h3 i x e
  exact ⟨b, e1, e2.mono t⟩
/-- the word, the parts of a step -/
def stpW : Stp → Str
  | .fin _ => "end"
  | .add _ _ => "add"
  | .take _ _ _ => "take"
  | .rest _ _ => "rest"
theorem StpAt.word {H : Hp} {K : PySem.W.Frag} {a : Addr} {x : Stp} (h : StpAt H a x) : ∃ r, H a = some (.tup (.str (stpW x) :: r)) := by
  cases x with
  | fin w => exact ⟨_, h⟩
  | add k to => exact ⟨_, h⟩
  | take k to o => exact ⟨_, h⟩
  | rest m tos =>
    obtain ⟨b, h1, _⟩ := h
    exact ⟨_, h1⟩
theorem PgAt.step {H : Hp} {a : Addr} {P : Pg} (h : PgAt H a P) {i : Nat} (hi : i < P.length) : ∃ (as : List Addr) (b : Addr) (x : Stp), H a = some (.tup (as.map V.ref)) ∧ as.length = P.length ∧ (as.map V.ref)[i]? = some (.ref b) ∧ P[i]? = some x ∧ StpAt H b x := by
  obtain ⟨as, h1, h2, h3⟩ := h
  obtain ⟨b, e1, e2⟩ := h3 i P[i] (List.getElem?_eq_getElem hi)
  exact ⟨as, b, P[i], h1, h2, by rw [List.getElem?_map, e1]; rfl, List.getElem?_eq_getElem hi, e2⟩
theorem atI0 {xs : List V} {v : V} : atI (v :: xs) 0 = some v := atI_nat (j := 0) rfl
theorem atI1 {a : V} {xs : List V} {v : V} : atI (a :: v :: xs) 1 = some v := atI_nat (j := 1) rfl
theorem atI2 {a b : V} {xs : List V} {v : V} : atI (a :: b :: v :: xs) 2 = some v := atI_nat (j := 2) rfl
theorem atI3 {a b c : V} {xs : List V} {v : V} : atI (a :: b :: c :: v :: xs) 3 = some v := atI_nat (j := 3) rfl
end K53
end

section
set_option Elab.async false
set_option linter.all false
set_option maxRecDepth 100000
set_option maxHeartbeats 4000000
/-! K53: common_divisor, common_multiple, _law_common. -/
namespace K53
open PySem PySem.Spec PyProof.Rows L2
section
variable {P : Program} {w : World} {K : PySem.W.Frag} {mg : Str → Option Value} {base : Heap} {f : Addr} {fd : FuncData} {cR cY cW : Addr} {tN : Tok}
def spGcd : Sp := fun vs H Q _ => ∃ a b : Nat, vs = [.int (a : Int), .int (b : Int)] ∧ Q (.int ((Nat.gcd a b : Nat) : Int)) H
theorem gcd_turn (a b : Nat) (h : b ≠ 0) : Nat.gcd b (a % b) = Nat.gcd a b := by
  rw [Nat.gcd_comm b, Nat.gcd_comm a, Nat.gcd_rec b a]
theorem ok_common_divisor (F : FnP K "common_divisor" "common_divisor" s_common_divisor f fd) : FnOk P w K mg base CX0 1 f fd ["one", "other"] spGcd := by
  refine F.ok sc_common_divisor (fun vs H Q E h => ?_) (fun cdv A outer s H vs Q E hr h => ?_)
  · obtain ⟨a, b, rfl, _⟩ := h
    rfl
  · obtain ⟨a, b, rfl, k⟩ := h
    refine ⟨_, PSs.nox (pss_cons (ps_par (i := 2) (j := 3) (by rfl) sc_common_divisor.nd rfl rfl (by decide) rfl rfl (pa_cons (pv 0) (pa_cons (pv 1) pa_nil)) (by rfl))
      (pss_cons (ps_while PassesOwn.never (pt_cmpR op_ne (pv 3) pe_int (nomark _)) (pss_one (ps_par (i := 2) (j := 3) (by rfl) sc_common_divisor.nd rfl rfl (by decide) rfl rfl (pa_cons (pv 3) (pa_cons (pe_op op_mod (pv 2) (pv 3)) pa_nil)) (by rfl))))
      (pss_one (ps_ret (pv 2))))), ?_⟩
    refine ⟨_, rfl, _, rfl, _, _, rfl, ?_⟩
    refine ⟨fun m σ H' => H' = H ∧ ∃ x : Nat, σ = [some (.int (a : Int)), some (.int (b : Int)), some (.int (x : Int)), some (.int (m : Int))] ∧ Nat.gcd x m = Nat.gcd a b, ⟨b, rfl, a, rfl, rfl⟩, ?_⟩
    rintro m σ H' ⟨rfl, x, rfl, hg⟩
    refine ⟨_, rfl, rfl, _, rfl, itN (fun hn => ?_) fun hz => ?_⟩
    · have hm : m ≠ 0 := fun z => hn (by rw [z]; rfl)
      refine ⟨_, fun _ _ z => z, ?_⟩
      refine ⟨_, rfl, _, rfl, _, rfl, _, _, rfl, rfl, (by omega), _, _, rfl, x % m, Nat.mod_lt _ (Nat.pos_of_ne_zero hm), rfl, m, ?_, ?_⟩
      · rw [Int.natCast_emod]
        rfl
      · rw [gcd_turn x m hm]
        exact hg
    · have hm : m = 0 := by
        have := vint.mp hz
        omega
      subst hm
      rw [Nat.gcd_zero_right] at hg
      subst hg
      exact ⟨_, rfl, k⟩
theorem ok_law_common (T : Txt K mg cR cY cW tN) (F : FnP K "_law_common" "_law_common" s_law_common f fd) : FnOk P w K mg base CX0 1 f fd ["_law_one_here", "_law_other"] spGcd := by
  refine F.ok sc_law_common (fun vs H Q E h => ?_) (fun cdv A outer s H vs Q E hr h => ?_)
  · obtain ⟨a, b, rfl, _⟩ := h
    rfl
  · obtain ⟨a, b, rfl, k⟩ := h
    refine ⟨_, PSs.nox (pss_cons (ps_while PassesOwn.never (pt_cmpR op_ne (pv 1) pe_int (nomark _)) (pss_one (ps_par (i := 0) (j := 1) (by rfl) sc_law_common.nd rfl rfl (by decide) rfl rfl (pa_cons (pv 1) (pa_cons (pe_op op_mod (pe_callTy call_int1 (by rfl) T.int_ (by decide +kernel) (pa_cons (pv 0) pa_nil)) (pv 1)) pa_nil)) (by rfl))))
      (pss_one (ps_ret (pv 0)))), ?_⟩
    refine ⟨fun m σ H' => H' = H ∧ ∃ x : Nat, σ = [some (.int (x : Int)), some (.int (m : Int))] ∧ Nat.gcd x m = Nat.gcd a b, ⟨b, rfl, a, rfl, rfl⟩, ?_⟩
    rintro m σ H' ⟨rfl, x, rfl, hg⟩
    refine ⟨_, rfl, rfl, _, rfl, itN (fun hn => ?_) fun hz => ?_⟩
    · have hm : m ≠ 0 := fun z => hn (by rw [z]; rfl)
      refine ⟨_, fun _ _ z => z, ?_⟩
      refine ⟨_, rfl, _, rfl, .inl ⟨_, rfl, _, rfl, _, _, rfl, rfl, (by omega), _, _, rfl, x % m, Nat.mod_lt _ (Nat.pos_of_ne_zero hm), rfl, m, ?_, ?_⟩⟩
      · rw [Int.natCast_emod]
        rfl
      · rw [gcd_turn x m hm]
        exact hg
    · have hm : m = 0 := by
        have := vint.mp hz
        omega
      subst hm
      rw [Nat.gcd_zero_right] at hg
      subst hg
      exact ⟨_, rfl, k⟩
def spLcm : Sp := fun vs H Q _ => ∃ a b : Nat, vs = [.int (a : Int), .int (b : Int)] ∧ 1 ≤ a ∧ a ≤ 1000 ∧ b ≤ 1000 ∧ Q (.int ((Nat.lcm a b : Nat) : Int)) H
theorem lcm_eq (a b : Nat) : (a : Int) / ((Nat.gcd a b : Nat) : Int) * (b : Int) = ((Nat.lcm a b : Nat) : Int) := by
  unfold Nat.lcm
  rw [← Int.natCast_ediv, ← Int.natCast_mul, Nat.div_mul_right_comm (Nat.gcd_dvd_left a b)]
theorem gcd_bd {a b : Nat} (h : 1 ≤ a) (h2 : a ≤ 1000) : 1 ≤ Nat.gcd a b ∧ Nat.gcd a b ≤ 1000 := ⟨Nat.gcd_pos_of_pos_left b h, Nat.le_trans (Nat.gcd_le_left b h) h2⟩
theorem ok_common_multiple (F : FnP K "common_multiple" "common_multiple" s_common_multiple f fd) {f1 fd1} (C_common_divisor : CalOk P w K mg base "common_divisor" 1 ["one", "other"] spGcd f1 fd1) : FnOk P w K mg base CX0 2 f fd ["one", "other"] spLcm := by
  refine F.ok sc_common_multiple (fun vs H Q E h => ?_) (fun cdv A outer s H vs Q E hr h => ?_)
  · obtain ⟨a, b, rfl, _⟩ := h
    rfl
  · obtain ⟨a, b, rfl, h1, h2, h3, k⟩ := h
    refine ⟨_, PSs.nox (pss_one (ps_ret (pe_op op_mul (pe_op op_fdiv (pv 0) (pe_call C_common_divisor.G (hr.mono (by decide)) rfl C_common_divisor.m C_common_divisor.kp C_common_divisor.b .nil pass0 (pa_cons (pv 0) (pa_cons (pv 1) pa_nil)))) (pv 1)))), ?_⟩
    obtain ⟨g1, g2⟩ := gcd_bd (b := b) h1 h2
    refine ⟨_, rfl, _, rfl, _, rfl, a, b, rfl, _, _, rfl, rfl, ⟨by omega, by omega⟩, _, rfl, _, _, rfl, rfl, .inr ⟨by omega, by omega⟩, ?_⟩
    show Q (.int ((a : Int) / ((Nat.gcd a b : Nat) : Int) * (b : Int))) H
    rw [lcm_eq]
    exact k
end
end K53
end

section
set_option Elab.async false
set_option linter.all false
set_option maxRecDepth 100000
set_option maxHeartbeats 4000000
/-! K53: round_number, _law_size, free_step, Round. -/
namespace K53
open PySem PySem.Spec PyProof.Rows L2
open K53M (Stp Pg S)
section
variable {P : Program} {w : World} {K : PySem.W.Frag} {mg : Str → Option Value} {base : Heap} {f : Addr} {fd : FuncData} {cR cY cW : Addr} {tN : Tok}
def spRM : Sp := fun vs H Q _ => ∃ (a : Addr) (G : Pg), vs = [.ref a] ∧ PgAt H a G ∧ K53M.Ok G (K53M.roundM G) ∧ Q (.int ((K53M.roundM G : Nat) : Int)) H
theorem ok_round_number (F : FnP K "round_number" "round_number" s_round_number f fd) {f1 fd1} (C_common_multiple : CalOk P w K mg base "common_multiple" 2 ["one", "other"] spLcm f1 fd1) : FnOk P w K mg base CX0 3 f fd ["program"] spRM := by
  refine F.ok sc_round_number (fun vs H Q E h => ?_) (fun cdv A outer s H vs Q E hr h => ?_)
  · obtain ⟨a, G, rfl, _⟩ := h
    rfl
  · obtain ⟨a, G, rfl, hG, o, k⟩ := h
    refine ⟨_, PSs.nox (pss_cons (ps_set (i := 1) sc_round_number.nd rfl (Or.inl rfl) pe_int)
      (pss_cons (ps_for PassesOwn.never rfl (pi_tup (pv 0)) (pg_name (i := 2) sc_round_number.nd rfl (Or.inl rfl)) (pss_one (ps_if (pt_cmpR op_eq (pe_ix ix_tup (pv 2) pe_int (fun _ _ => rfl)) pe_str (nomark _)) (pss_one (ps_set (i := 1) sc_round_number.nd rfl (Or.inl rfl) (pe_call C_common_multiple.G (hr.mono (by decide)) rfl C_common_multiple.m C_common_multiple.kp C_common_multiple.b .nil pass0 (pa_cons (pv 1) (pa_cons (pe_ix ix_tup (pv 2) pe_int (fun _ _ => rfl)) pa_nil))))) pss_nil)))
      (pss_one (ps_ret (pv 1))))), ?_⟩
    obtain ⟨as, h1, h2, h3⟩ := id hG
    refine ⟨_, rfl, a, rfl, ⟨_, SqT.of h1⟩, for_tup (K := K) (a := a) (xs := as.map V.ref) (fun i σ H' => H' = H ∧ ∃ v, σ = [some (.ref a), some (.int ((K53M.roundT G i : Nat) : Int)), v]) ⟨rfl, _, rfl⟩ (fun i σ H' _ e => by rw [e.1]; exact SqT.of h1) ?_ ?_⟩
    · rintro i x σ H' hi ⟨rfl, v, rfl⟩
      have hlt : i < G.length := by
        have := (List.getElem?_eq_some_iff.mp hi).1
        rw [List.length_map] at this
        omega
      obtain ⟨b, e1, e2⟩ := h3 i G[i] (List.getElem?_eq_getElem hlt)
      have eG : G[i]? = some G[i] := List.getElem?_eq_getElem hlt
      rw [List.getElem?_map, e1] at hi
      cases hi
      have hs := K53M.roundT_succ eG
      have ob := o.roundT_le (i := i) (by omega)
      have ok := o.st _ _ eG
      obtain ⟨r, er⟩ := e2.word (K := K)
      refine ⟨_, rfl, b, _, _, _, rfl, rfl, SqT.of er, atI0, rfl, _, rfl, itD (fun he => ?_) fun he => ?_⟩
      · have he := vstr.mp he
        generalize hx : G[i] = x at *
        cases x with
        | rest m tos =>
          obtain ⟨bt, f1, f2⟩ := e2
          refine ⟨_, rfl, _, rfl, b, _, _, _, rfl, rfl, SqT.of f1, atI1, K53M.roundT G i, m, rfl, ob.1, by omega, by have := ok.2.1; omega, rfl, some (.ref b), ?_⟩
          rw [hs]
          rfl
        | fin w => exact absurd he ne_end_rest
        | add k to => exact absurd he ne_add_rest
        | take k to ot => exact absurd he ne_take_rest
      · generalize hx : G[i] = x at *
        refine ⟨rfl, some (.ref b), ?_⟩
        rw [hs]
        cases x with
        | rest m tos => exact absurd rfl he
        | fin w => rfl
        | add k to => rfl
        | take k to ot => rfl
    · rintro σ H' ⟨rfl, v, rfl⟩
      refine ⟨_, rfl, ?_⟩
      rw [List.length_map, h2, K53M.roundT_all]
      exact k
theorem ok_law_size (F : FnP K "_law_size" "_law_size" s_law_size f fd) {f1 fd1} (C_law_common : CalOk P w K mg base "_law_common" 1 ["_law_one_here", "_law_other"] spGcd f1 fd1) : FnOk P w K mg base CX0 2 f fd ["_law_program_here"] spRM := by
  refine F.ok sc_law_size (fun vs H Q E h => ?_) (fun cdv A outer s H vs Q E hr h => ?_)
  · obtain ⟨a, G, rfl, _⟩ := h
    rfl
  · obtain ⟨a, G, rfl, hG, o, k⟩ := h
    refine ⟨_, PSs.nox (pss_cons (ps_set (i := 1) sc_law_size.nd rfl (Or.inl rfl) pe_int)
      (pss_cons (ps_for PassesOwn.never rfl (pi_tup (pv 0)) (pg_name (i := 2) sc_law_size.nd rfl (Or.inl rfl)) (pss_one (ps_if (pt_cmpR op_eq (pe_ix ix_tup (pv 2) pe_int (fun _ _ => rfl)) pe_str (nomark _)) (pss_one (ps_set (i := 1) sc_law_size.nd rfl (Or.inl rfl) (pe_op op_mul (pe_op op_fdiv (pv 1) (pe_call C_law_common.G (hr.mono (by decide)) rfl C_law_common.m C_law_common.kp C_law_common.b .nil pass0 (pa_cons (pv 1) (pa_cons (pe_ix ix_tup (pv 2) pe_int (fun _ _ => rfl)) pa_nil)))) (pe_ix ix_tup (pv 2) pe_int (fun _ _ => rfl))))) pss_nil)))
      (pss_one (ps_ret (pv 1))))), ?_⟩
    obtain ⟨as, h1, h2, h3⟩ := id hG
    refine ⟨_, rfl, a, rfl, ⟨_, SqT.of h1⟩, for_tup (K := K) (a := a) (xs := as.map V.ref) (fun i σ H' => H' = H ∧ ∃ v, σ = [some (.ref a), some (.int ((K53M.roundT G i : Nat) : Int)), v]) ⟨rfl, _, rfl⟩ (fun i σ H' _ e => by rw [e.1]; exact SqT.of h1) ?_ ?_⟩
    · rintro i x σ H' hi ⟨rfl, v, rfl⟩
      have hlt : i < G.length := by
        have := (List.getElem?_eq_some_iff.mp hi).1
        rw [List.length_map] at this
        omega
      obtain ⟨b, e1, e2⟩ := h3 i G[i] (List.getElem?_eq_getElem hlt)
      have eG : G[i]? = some G[i] := List.getElem?_eq_getElem hlt
      rw [List.getElem?_map, e1] at hi
      cases hi
      have hs := K53M.roundT_succ eG
      have ob := o.roundT_le (i := i) (by omega)
      have ok := o.st _ _ eG
      obtain ⟨r, er⟩ := e2.word (K := K)
      refine ⟨_, rfl, b, _, _, _, rfl, rfl, SqT.of er, atI0, rfl, _, rfl, itD (fun he => ?_) fun he => ?_⟩
      · have he := vstr.mp he
        generalize hx : G[i] = x at *
        cases x with
        | rest m tos =>
          obtain ⟨bt, f1, f2⟩ := e2
          obtain ⟨g1, g2⟩ := gcd_bd (a := K53M.roundT G i) (b := m) ob.1 (by omega)
          refine ⟨_, rfl, _, rfl, _, rfl, b, _, _, _, rfl, rfl, SqT.of f1, atI1, _, m, rfl, _, _, rfl, rfl, ⟨by omega, by omega⟩, _, rfl, b, _, _, _, rfl, rfl, SqT.of f1, atI1, _, _, rfl, rfl, .inr ⟨by have := ok.2.1; omega, by have := ok.2.1; omega⟩, rfl, some (.ref b), ?_⟩
          rw [hs]
          show _ = [_, some (V.int ((Nat.lcm (K53M.roundT G i) m : Nat) : Int)), _]
          rw [← lcm_eq]
          rfl
        | fin w => exact absurd he ne_end_rest
        | add k to => exact absurd he ne_add_rest
        | take k to ot => exact absurd he ne_take_rest
      · generalize hx : G[i] = x at *
        refine ⟨rfl, some (.ref b), ?_⟩
        rw [hs]
        cases x with
        | rest m tos => exact absurd rfl he
        | fin w => rfl
        | add k to => rfl
        | take k to ot => rfl
    · rintro σ H' ⟨rfl, v, rfl⟩
      refine ⟨_, rfl, ?_⟩
      rw [List.length_map, h2, K53M.roundT_all]
      exact k
/-! ### free_step -/
theorem atI_mod {tos : List Nat} {m : Nat} (hm : 1 ≤ m) (hl : tos.length = m) (c : Int) : atI (tos.map fun (t : Nat) => V.int (t : Int)) (c % (m : Int)) = some (V.int ((tos.getD (c % (m : Int)).toNat 0 : Nat) : Int)) := by
  have a1 : 0 ≤ c % (m : Int) := Int.emod_nonneg _ (by omega)
  have a2 : c % (m : Int) < (m : Int) := Int.emod_lt_of_pos _ (by omega)
  have hi : (c % (m : Int)).toNat < tos.length := by omega
  have e : ((c % (m : Int)).toNat : Int) = c % (m : Int) := Int.toNat_of_nonneg a1
  have h := atI_nat (xs := tos.map fun (t : Nat) => V.int (t : Int)) (j := (c % (m : Int)).toNat) (v := V.int ((tos[(c % (m : Int)).toNat] : Nat) : Int)) (by rw [List.getElem?_map, List.getElem?_eq_getElem hi]; rfl)
  rw [e] at h
  rw [h]
  simp [List.getD, hi]
def spFree : Sp := fun vs H Q _ => ∃ (b : Addr) (x : Stp) (c : Int) (L M : Nat), vs = [.ref b, .int c] ∧ StpAt H b x ∧ (∀ w, x ≠ .fin w) ∧ K53M.StpOk L M x ∧ ∀ p, H p = none → Q (.ref p) (upd H p (.tup [.int (((K53M.freeX x c).1 : Nat) : Int), .int (K53M.freeX x c).2]))
theorem ok_free_step (F : FnP K "free_step" "free_step" s_free_step f fd) : FnOk P w K mg base CX0 1 f fd ["step", "counter"] spFree := by
  refine F.ok sc_free_step (fun vs H Q E h => ?_) (fun cdv A outer s H vs Q E hr h => ?_)
  · obtain ⟨b, x, c, L, M, rfl, _⟩ := h
    rfl
  · obtain ⟨b, x, c, L, M, rfl, hx, hf, ok, k⟩ := h
    refine ⟨_, PSs.nox (pss_cons (ps_if (pt_cmpR op_eq (pe_ix ix_tup (pv 0) pe_int (fun _ _ => rfl)) pe_str (nomark _)) (pss_one (ps_ret (pe_tup (pa_cons (pe_ix ix_tup (pv 0) pe_int (fun _ _ => rfl)) (pa_cons (pe_ix ix_tup (pv 0) pe_int (fun _ _ => rfl)) pa_nil))))) pss_nil)
      (pss_cons (ps_if (pt_cmpR op_eq (pe_ix ix_tup (pv 0) pe_int (fun _ _ => rfl)) pe_str (nomark _)) (pss_one (ps_ret (pe_tup (pa_cons (pe_ix ix_tup (pv 0) pe_int (fun _ _ => rfl)) (pa_cons (pe_op op_sub pe_int (pe_ix ix_tup (pv 0) pe_int (fun _ _ => rfl))) pa_nil))))) pss_nil)
      (pss_one (ps_ret (pe_tup (pa_cons (pe_ix ix_tup (pe_ix ix_tup (pv 0) pe_int (fun _ _ => rfl)) (pe_op op_mod (pv 1) (pe_ix ix_tup (pv 0) pe_int (fun _ _ => rfl))) (fun _ _ => rfl)) (pa_cons pe_int pa_nil))))))), ?_⟩
    have l2 : (2 : Nat) ≤ sizeLine := by decide
    cases x with
    | fin w => exact absurd rfl (hf w)
    | add k1 to =>
      have hx : H b = _ := hx
      refine ⟨_, rfl, b, _, _, _, rfl, rfl, SqT.of hx, atI0, rfl, _, rfl, itD (fun he => ?_) fun he => absurd rfl he⟩
      exact ⟨_, rfl, b, _, _, _, rfl, rfl, SqT.of hx, atI2, _, rfl, b, _, _, _, rfl, rfl, SqT.of hx, atI1, l2, k⟩
    | take k1 to ot =>
      have hx : H b = _ := hx
      refine ⟨_, rfl, b, _, _, _, rfl, rfl, SqT.of hx, atI0, rfl, _, rfl, itD (fun he => absurd (vstr.mp he) ne_take_add) fun _ => ?_⟩
      refine ⟨_, rfl, b, _, _, _, rfl, rfl, SqT.of hx, atI0, rfl, _, rfl, itD (fun he => ?_) fun he => absurd rfl he⟩
      exact ⟨_, rfl, b, _, _, _, rfl, rfl, SqT.of hx, atI2, _, rfl, b, _, _, _, rfl, rfl, SqT.of hx, atI1, _, _, rfl, rfl, l2, k⟩
    | rest m tos =>
      obtain ⟨bt, f1, f2⟩ := hx
      refine ⟨_, rfl, b, _, _, _, rfl, rfl, SqT.of f1, atI0, rfl, _, rfl, itD (fun he => absurd (vstr.mp he) ne_rest_add) fun _ => ?_⟩
      refine ⟨_, rfl, b, _, _, _, rfl, rfl, SqT.of f1, atI0, rfl, _, rfl, itD (fun he => absurd (vstr.mp he) ne_rest_take) fun _ => ?_⟩
      have hm := ok.1
      exact ⟨_, rfl, b, _, _, _, rfl, rfl, SqT.of f1, atI2, _, rfl, _, rfl, b, _, _, _, rfl, rfl, SqT.of f1, atI1, _, _, rfl, rfl, by omega, bt, _, _, _, rfl, rfl, SqT.of f2, atI_mod (by omega) ok.2.2.1 c, l2, k⟩
/-! ### Round -/
def rf (n fall need pl : V) : List (Str × V) := [("steps", n), ("fall", fall), ("need", need), ("places", pl)]
theorem rf_steps (n fall need pl : V) : (rf n fall need pl).lookup ("steps" : Str) = some n := rfl
theorem ne_fall_steps : (("fall" : Str) == "steps") = false := by decide +kernel
theorem ne_need_steps : (("need" : Str) == "steps") = false := by decide +kernel
theorem ne_need_fall : (("need" : Str) == "fall") = false := by decide +kernel
theorem ne_pl_steps : (("places" : Str) == "steps") = false := by decide +kernel
theorem ne_pl_fall : (("places" : Str) == "fall") = false := by decide +kernel
theorem ne_pl_need : (("places" : Str) == "need") = false := by decide +kernel
theorem rf_fall (n fall need pl : V) : (rf n fall need pl).lookup ("fall" : Str) = some fall := by
  unfold rf
  rw [List.lookup_cons, ne_fall_steps]
  rfl
theorem rf_need (n fall need pl : V) : (rf n fall need pl).lookup ("need" : Str) = some need := by
  unfold rf
  rw [List.lookup_cons, ne_need_steps, List.lookup_cons, ne_need_fall]
  rfl
theorem putF_new {x : Str} {v : V} : ∀ {fs : List (Str × V)}, fs.lookup x = none → putF x v fs = fs ++ [(x, v)]
  | [], _ => rfl
  | (g, y) :: r, h => by
    rw [List.lookup_cons] at h
    cases e : (x == g) with
    | true =>
      rw [e] at h
      cases h
    | false =>
      rw [e] at h
      have ne : ¬ g = x := fun z => by
        rw [z, beq_self_eq_true] at e
        cases e
      show (if g = x then (g, v) :: r else (g, y) :: putF x v r) = _
      rw [if_neg ne, putF_new h]
      rfl
def spRInit : Sp := fun vs H Q _ => ∃ (p C dx : Addr) (n fall need pl : V), vs = [.ref p, n, fall, need, pl] ∧ C = cR ∧ H p = some (.ins C dx []) ∧ Q .non (upd H p (.ins C dx (rf n fall need pl)))
end
end K53
end

section
set_option Elab.async false
set_option linter.all false
set_option maxRecDepth 100000
set_option maxHeartbeats 4000000
/-! K53: Round, round_at. -/
namespace K53
open PySem PySem.Spec PyProof.Rows L2
open K53M (Stp Pg S)
section
variable {P : Program} {w : World} {K : PySem.W.Frag} {mg : Str → Option Value} {base : Heap} {f : Addr} {fd : FuncData} {cR cY cW : Addr} {tN : Tok}
theorem n1 : ¬ ("steps" : Str) = "fall" := by decide +kernel
theorem n2 : ¬ ("steps" : Str) = "need" := by decide +kernel
theorem n3 : ¬ ("fall" : Str) = "need" := by decide +kernel
theorem n4 : ¬ ("steps" : Str) = "places" := by decide +kernel
theorem n5 : ¬ ("fall" : Str) = "places" := by decide +kernel
theorem n6 : ¬ ("need" : Str) = "places" := by decide +kernel
theorem rf_put (n fall need pl : V) : putF "places" pl (putF "need" need (putF "fall" fall (putF "steps" n []))) = rf n fall need pl := by
  simp only [putF, if_neg n1, if_neg n2, if_neg n3, if_neg n4, if_neg n5, if_neg n6]
  rfl
theorem putF_le (x : Str) (v : V) : ∀ fs : List (Str × V), (putF x v fs).length ≤ fs.length + 1 := length_putF x v
theorem ok_Round_init (T : Txt K mg cR cY cW tN) (F : FnP K "__init__" "Round.__init__" s_Round_init f fd) : FnOk P w K mg base CX0 1 f fd ["self", "steps", "fall", "need", "places"] (spRInit (cR := cR)) := by
  refine F.ok sc_Round_init (fun vs H Q E h => ?_) (fun cdv A outer s H vs Q E hr h => ?_)
  · obtain ⟨p, C, dx, n, fl, nd, pl, rfl, _⟩ := h
    rfl
  · obtain ⟨p, C, dx, n, fl, nd, pl, rfl, rfl, hp, k⟩ := h
    refine ⟨_, PSs.nox (pss_cons (ps_fld (pv 0) (pv 1) rfl)
      (pss_cons (ps_fld (pv 0) (pv 2) rfl)
      (pss_cons (ps_fld (pv 0) (pv 3) rfl)
      (pss_one (ps_fld (pv 0) (pv 4) rfl))))), ?_⟩
    refine ⟨_, rfl, _, rfl, p, C, dx, _, rfl, hp, T.clRound, T.nRs, by decide, ?_⟩
    refine ⟨_, rfl, _, rfl, p, C, dx, _, rfl, upd_same, T.clRound, T.nRf, Nat.lt_of_le_of_lt (putF_le _ _ _) (by decide), ?_⟩
    rw [upd_upd]
    refine ⟨_, rfl, _, rfl, p, C, dx, _, rfl, upd_same, T.clRound, T.nRn, Nat.lt_of_le_of_lt (Nat.le_trans (putF_le _ _ _) (Nat.succ_le_succ (putF_le _ _ _))) (by decide), ?_⟩
    rw [upd_upd]
    refine ⟨_, rfl, _, rfl, p, C, dx, _, rfl, upd_same, T.clRound, T.nRp, Nat.lt_of_le_of_lt (Nat.le_trans (putF_le _ _ _) (Nat.succ_le_succ (Nat.le_trans (putF_le _ _ _) (Nat.succ_le_succ (putF_le _ _ _))))) (by decide), ?_⟩
    rw [upd_upd, rf_put]
    exact k
/-- how often a round goes, as a value -/
def timesV (c fall need : Int) : V := if c < need then .int 0 else if fall ≤ 0 then .non else .int ((c - need) / fall + 1)
def spTimes : Sp := fun vs H Q _ => ∃ (p dx : Addr) (n pl : V) (c fall need : Int), vs = [.ref p, .int c] ∧ H p = some (.ins cR dx (rf n (.int fall) (.int need) pl)) ∧ fall ≤ 144 ∧ Q (timesV c fall need) H
theorem ok_times_from (T : Txt K mg cR cY cW tN) (F : FnP K "times_from" "Round.times_from" s_Round_times_from f fd) : FnOk P w K mg base CX0 1 f fd ["self", "counter"] (spTimes (cR := cR)) := by
  refine F.ok sc_Round_times_from (fun vs H Q E h => ?_) (fun cdv A outer s H vs Q E hr h => ?_)
  · obtain ⟨p, dx, n, pl, c, fl, nd, rfl, _⟩ := h
    rfl
  · obtain ⟨p, dx, n, pl, c, fl, nd, rfl, hp, hf, k⟩ := h
    refine ⟨_, PSs.nox (pss_cons (ps_if (pt_cmpR op_lt (pv 1) (pe_fld (pv 0) rfl) (nomark _)) (pss_one (ps_ret pe_int)) pss_nil)
      (pss_one (ps_ret (pe_ifExp (pt_cmpR op_le (pe_fld (pv 0) rfl) pe_int (nomark _)) pe_non (pe_op op_add (pe_op op_fdiv (pe_op op_sub (pv 1) (pe_fld (pv 0) rfl)) (pe_fld (pv 0) rfl)) pe_int))))), ?_⟩
    refine ⟨_, rfl, _, rfl, p, cR, dx, _, _, rfl, hp, T.clRound, T.nRn, rf_need _ _ _ _, _, _, rfl, rfl, _, rfl, itD (fun h1 => ?_) fun h1 => ?_⟩
    · show Q (.int 0) H
      unfold timesV at k
      rw [if_pos h1] at k
      exact k
    · unfold timesV at k
      rw [if_neg h1] at k
      refine ⟨_, rfl, p, cR, dx, _, _, rfl, hp, T.clRound, T.nRf, rf_fall _ _ _ _, _, _, rfl, rfl, _, rfl, itD (fun h2 => ?_) fun h2 => ?_⟩
      · rw [if_pos h2] at k
        exact k
      · rw [if_neg h2] at k
        exact ⟨_, rfl, _, rfl, p, cR, dx, _, _, rfl, hp, T.clRound, T.nRn, rf_need _ _ _ _, _, _, rfl, rfl, _, rfl, p, cR, dx, _, _, rfl, hp, T.clRound, T.nRf, rf_fall _ _ _ _, _, _, rfl, rfl, ⟨by omega, by omega⟩, _, _, rfl, rfl, k⟩
/-- a round's object, or None -/
def RoundV (cR : Addr) (H : Hp) (v : V) (G : Pg) (M : Nat) (s : S) : Prop := (v = .non ∧ ∀ n, ¬ K53M.IsRound G M s n) ∨
  ∃ (x dx : Addr) (n : Nat) (pl : V), v = .ref x ∧ K53M.IsRound G M s n ∧ H x = some (.ins cR dx (rf (.int (n : Int)) (.int (K53M.fallN G s n)) (.int (K53M.needN G s n)) pl))
theorem RoundV.mono {cR : Addr} {H H' : Hp} {v : V} {G : Pg} {M : Nat} {s : S} (t : Same H H') (h : RoundV cR H v G M s) : RoundV cR H' v G M s := by
  rcases h with h | ⟨x, dx, n, pl, h1, h2, h3⟩
  · exact .inl h
  · exact .inr ⟨x, dx, n, pl, h1, h2, t _ _ h3⟩
theorem max_if (a b : Int) : (if b > a then b else a) = max a b := by
  rw [Int.max_def]
  split <;> split <;> omega
theorem min_if (a b : Int) : (if b < a then b else a) = min a b := by
  rw [Int.min_def]
  split <;> split <;> omega
theorem mod_beg {M : Nat} {x r : Int} (h0 : 0 ≤ r) (h1 : r < M) : x % (M : Int) = r ↔ (M : Int) ∣ x - r := by
  constructor
  · intro h
    exact Int.dvd_of_emod_eq_zero (by rw [Int.sub_emod, h, Int.emod_eq_of_lt h0 h1, Int.sub_self]; rfl)
  · rintro ⟨t, ht⟩
    have : x = r + M * t := by omega
    rw [this, Int.add_mul_emod_self_left, Int.emod_eq_of_lt h0 h1]
def spRA (cR : Addr) : Sp := fun vs H Q _ => ∃ (a : Addr) (G : Pg) (M p : Nat) (r : Int), vs = [.ref a, .int (p : Int), .int r, .int (M : Int)] ∧ PgAt H a G ∧ K53M.Ok G M ∧ p < G.length ∧ 0 ≤ r ∧ r < M ∧
  ∀ v H', Same H H' → RoundV cR H' v G M (p, r) → Q v H'
theorem ok_round_at (T : Txt K mg cR cY cW tN) (F : FnP K "round_at" "round_at" s_round_at f fd) {f1 fd1 f2 fd2} (C_free_step : CalOk P w K mg base "free_step" 1 ["step", "counter"] spFree f1 fd1)
    (CRound : ConOk P w K mg base cR "Round" 1 ["self", "steps", "fall", "need", "places"] (spRInit (cR := cR)) f2 fd2) : FnOk P w K mg base CX0 3 f fd ["program", "place", "rest", "many"] (spRA cR) := by
  refine F.ok sc_round_at (fun vs H Q E h => ?_) (fun cdv A outer s H vs Q E hr h => ?_)
  · obtain ⟨a, G, M, p, r, rfl, _⟩ := h
    rfl
  · obtain ⟨a, G, M, p, r, rfl, hG, o, hp, r0, r1, k⟩ := h
    refine ⟨_, PSs.nox (pss_cons (ps_asg (pe_tup (pa_cons (pv 1) (pa_cons (pv 2) (pa_cons pe_int (pa_cons pe_int (pa_cons (pe_lst pa_nil) pa_nil)))))) (pg_tup rfl (pgs_cons (pg_name (i := 4) sc_round_at.nd rfl (Or.inl rfl)) (pgs_cons (pg_name (i := 5) sc_round_at.nd rfl (Or.inl rfl)) (pgs_cons (pg_name (i := 6) sc_round_at.nd rfl (Or.inl rfl)) (pgs_cons (pg_name (i := 7) sc_round_at.nd rfl (Or.inl rfl)) (pgs_cons (pg_name (i := 8) sc_round_at.nd rfl (Or.inl rfl)) pgs_nil)))))))
      (pss_cons (ps_while PassesOwn.never (pt_cmpR op_lt (pe_callB call_len_seq (by rfl) T.len_ (by decide +kernel) (pa_cons (pv 8) pa_nil)) (pe_op op_mul (pe_callB call_len_seq (by rfl) T.len_ (by decide +kernel) (pa_cons (pv 0) pa_nil)) (pv 3)) (nomark _)) (pss_cons (ps_set (i := 9) sc_round_at.nd rfl (Or.inl rfl) (pe_ix ix_tup (pv 0) (pv 4) (fun _ _ => rfl)))
      (pss_cons (ps_if (pt_cmpR op_eq (pe_ix ix_tup (pv 9) pe_int (fun _ _ => rfl)) pe_str (nomark _)) (pss_one (ps_ret pe_non)) pss_nil)
      (pss_cons (ps_if (pt_cmpR op_eq (pe_ix ix_tup (pv 9) pe_int (fun _ _ => rfl)) pe_str (nomark _)) (pss_one (ps_set (i := 7) sc_round_at.nd rfl (Or.inl rfl) (pe_callB (call_max2 rfl) (by rfl) T.max_ (by decide +kernel) (pa_cons (pv 7) (pa_cons (pe_op op_add (pe_ix ix_tup (pv 9) pe_int (fun _ _ => rfl)) (pv 6)) pa_nil))))) pss_nil)
      (pss_cons (ps_expr (pe_bm PySem.F.plainAttrs_list PySem.F.slot_list_append PySem.F.type_list_append mt_append (pv 8) (pa_cons (pv 4) pa_nil)))
      (pss_cons (ps_asg (pe_call C_free_step.G (hr.mono (by decide)) rfl C_free_step.m C_free_step.kp C_free_step.b .nil pass0 (pa_cons (pv 9) (pa_cons (pv 5) pa_nil))) (pg_tup rfl (pgs_cons (pg_name (i := 4) sc_round_at.nd rfl (Or.inl rfl)) (pgs_cons (pg_name (i := 10) sc_round_at.nd rfl (Or.inl rfl)) pgs_nil))))
      (pss_cons (ps_par (i := 5) (j := 6) (by rfl) sc_round_at.nd rfl rfl (by decide) rfl rfl (pa_cons (pe_op op_mod (pe_op op_add (pv 5) (pv 10)) (pv 3)) (pa_cons (pe_op op_sub (pv 6) (pv 10)) pa_nil)) (by rfl))
      (pss_one (ps_if (PW.pt (pw_and (pt_cmpR op_eq (pv 4) (pv 1) (nomark _)) (pw_and1 (pt_cmpR op_eq (pv 5) (pv 2) (nomark _))))) (pss_one (ps_ret (pe_make CRound.mk_ CRound.G (hr.mono (by decide)) rfl CRound.m CRound.b .nil pass0 (pa_cons (pe_callB call_len_seq (by rfl) T.len_ (by decide +kernel) (pa_cons (pv 8) pa_nil)) (pa_cons (pv 6) (pa_cons (pv 7) (pa_cons (pe_callTy call_tuple_of (by rfl) T.tuple_ (by decide +kernel) (pa_cons (pv 8) pa_nil)) pa_nil))))))) pss_nil)))))))))
      (pss_one (ps_ret pe_non)))), ?_⟩
    refine ⟨_, rfl, _, rfl, Nat.zero_le _, fun l hl => ⟨(by show 5 ≤ sizeLine; decide), fun t ht => ⟨t, _, rfl, SqT.of upd_same, rfl, _, _, rfl, _, _, rfl, _, _, rfl, _, _, rfl, _, _, rfl, rfl, ?_⟩⟩⟩
    have S0 : Same H (upd (upd H l (.lst [])) t (.tup [.int (p : Int), .int r, .int 0, .int 0, .ref l])) := (Same.new hl).trans (Same.new ht)
    have ntl : l ≠ t := fun z => by
      rw [← z, upd_same] at ht
      cases ht
    refine ⟨fun m σ H' => ∃ (j : Nat) (v9 v10 : Option V) (xs : List V), m + j = G.length * M ∧ xs.length = j ∧ Same H H' ∧ H' l = some (.lst xs) ∧ (∀ i, i < j → K53M.isEnd G (K53M.frN G i (p, r)).1 = false) ∧
      (∀ i, 0 < i → i ≤ j → ¬ K53M.Beg M (K53M.frN G i (p, r)) (p, r)) ∧
      σ = [some (.ref a), some (.int (p : Int)), some (.int r), some (.int (M : Int)), some (.int (((K53M.frN G j (p, r)).1 : Nat) : Int)), some (.int ((K53M.frN G j (p, r)).2 % (M : Int))), some (.int (K53M.fallN G (p, r) j)), some (.int (K53M.needN G (p, r) j)), some (.ref l), v9, v10],
      ⟨G.length * M, 0, none, none, [], rfl, rfl, S0, by rw [upd_ne ntl, upd_same], fun i hi => absurd hi (Nat.not_lt_zero i), fun i h0 hi => by omega, ?_⟩, ?_⟩
    · have e1 : (K53M.frN G 0 (p, r)).2 % (M : Int) = r := Int.emod_eq_of_lt r0 r1
      have e2 : K53M.fallN G (p, r) 0 = 0 := by
        show r - r = 0
        omega
      rw [e1, e2]
      rfl
    · rintro m σ H' ⟨j, v9, v10, xs, hm, hxs, hS, hl', hne, hnb, rfl⟩
      obtain ⟨as, h1, h2, h3⟩ := id (hG.mono (Same.tups hS))
      have hF : (K53M.frN G j (p, r)).1 < G.length := o.frN_lt j hp
      refine ⟨_, rfl, l, _, rfl, .inl (SqL.of hl'), _, rfl, a, _, rfl, .inr (SqT.of h1), _, rfl, _, _, rfl, rfl, .inr ⟨by have := o.m6; omega, by have := o.m6; omega⟩, _, _, rfl, rfl, _, rfl, itD (fun hlt => ?_) fun hge => ?_⟩
      · rw [List.length_map, h2, hxs, ← Int.natCast_mul] at hlt
        have hlt : j < G.length * M := Int.ofNat_lt.mp hlt
        refine ⟨_, fun _ _ z => z, ?_⟩
        generalize hFj : K53M.frN G j (p, r) = Fj at hF ⊢
        obtain ⟨b, e1, e2⟩ := h3 Fj.1 G[Fj.1] (List.getElem?_eq_getElem hF)
        have eG : G[Fj.1]? = some G[Fj.1] := List.getElem?_eq_getElem hF
        generalize hx : G[Fj.1] = x at e2 eG
        have ok := o.st _ _ eG
        obtain ⟨rr, er⟩ := e2.word (K := K)
        refine ⟨_, rfl, _, rfl, a, _, _, _, rfl, rfl, SqT.of h1, atI_nat (by rw [List.getElem?_map, e1]; rfl), ?_⟩
        refine ⟨_, rfl, b, _, _, _, rfl, rfl, SqT.of er, atI0, rfl, _, rfl, itD (fun he => ?_) fun hne2 => ?_⟩
        · -- an end
          have hE : K53M.isEnd G Fj.1 = true := by
            unfold K53M.isEnd
            rw [eG]
            cases x with
            | fin w => rfl
            | add k1 to => exact absurd (vstr.mp he) ne_add_end
            | take k1 to ot => exact absurd (vstr.mp he) ne_take_end
            | rest m1 tos => exact absurd (vstr.mp he) ne_rest_end
          refine k _ _ hS (.inl ⟨rfl, fun n hn => ?_⟩)
          rcases Nat.lt_or_ge j n with q | q
          · have := hn.noend j q
            rw [hFj, hE] at this
            cases this
          · exact hnb n hn.pos q hn.ret
        · have hfin : ∀ w, x ≠ .fin w := fun w z => hne2 (by rw [z]; rfl)
          have hE : K53M.isEnd G Fj.1 = false := by
            unfold K53M.isEnd
            rw [eG]
            cases x with
            | fin w => exact absurd rfl (hfin w)
            | add k1 to => rfl
            | take k1 to ot => rfl
            | rest m1 tos => rfl
          have hj1 : ∀ i, i < j + 1 → K53M.isEnd G (K53M.frN G i (p, r)).1 = false := fun i hi => by
            rcases Nat.lt_or_ge i j with q | q
            · exact hne i q
            · rw [show i = j by omega, hFj]
              exact hE
          have hfr : K53M.frN G (j + 1) (p, r) = ((K53M.freeX x Fj.2).1, Fj.2 + (K53M.freeX x Fj.2).2) := by
            rw [K53M.frN_succ, hFj]
            exact K53M.free_X eG hfin
          have hfx : K53M.freeX x (Fj.2 % (M : Int)) = K53M.freeX x Fj.2 := o.freeX_mod eG _ _ ⟨-(Fj.2 / M), by
            have := Int.emod_add_mul_ediv Fj.2 M
            rw [Int.mul_neg]
            omega⟩
          have hleft : (Fj.2 % (M : Int) + (K53M.freeX x Fj.2).2) % (M : Int) = (K53M.frN G (j + 1) (p, r)).2 % (M : Int) := by
            rw [hfr, Int.emod_add_emod]
          have hfall : K53M.fallN G (p, r) j - (K53M.freeX x Fj.2).2 = K53M.fallN G (p, r) (j + 1) := by
            unfold K53M.fallN
            rw [hfr, hFj]
            show r - Fj.2 - _ = r - (Fj.2 + _)
            omega
          have hneed : ∀ k1 to ot, x = .take k1 to ot → K53M.needN G (p, r) (j + 1) = max (K53M.needN G (p, r) j) ((k1 : Int) + K53M.fallN G (p, r) j) := fun k1 to ot e => by
            show (match G[(K53M.frN G j (p, r)).1]? with
              | some (.take k _ _) => max (K53M.needN G (p, r) j) ((k : Int) + ((p, r).2 - (K53M.frN G j (p, r)).2))
              | _ => K53M.needN G (p, r) j) = _
            rw [hFj, eG, e]
            unfold K53M.fallN
            rw [hFj]
          have hneed0 : (∀ k1 to ot, x ≠ .take k1 to ot) → K53M.needN G (p, r) (j + 1) = K53M.needN G (p, r) j := fun e => by
            show (match G[(K53M.frN G j (p, r)).1]? with
              | some (.take k _ _) => max (K53M.needN G (p, r) j) ((k : Int) + ((p, r).2 - (K53M.frN G j (p, r)).2))
              | _ => K53M.needN G (p, r) j) = _
            rw [hFj, eG]
            cases x with
            | take k1 to ot => exact absurd rfl (e k1 to ot)
            | _ => rfl
          have hbeg : K53M.Beg M (K53M.frN G (j + 1) (p, r)) (p, r) ↔ (K53M.freeX x Fj.2).1 = p ∧ (K53M.frN G (j + 1) (p, r)).2 % (M : Int) = r := by
            unfold K53M.Beg
            rw [mod_beg r0 r1]
            conv => lhs; rw [hfr]
            rw [hfr]
          have hxl : xs.length < sizeLine := by
            have := o.le36
            have h36 : 36 < sizeLine := by decide
            omega
          refine ⟨_, rfl, b, _, _, _, rfl, rfl, SqT.of er, atI0, rfl, _, rfl, itD (fun he => ?_) fun he => ?_⟩
          · obtain ⟨k1, to, ot, hxe⟩ : ∃ k1 to ot, x = .take k1 to ot := by
              cases x with
              | fin w => exact absurd (vstr.mp he) ne_end_take
              | add k1 to => exact absurd (vstr.mp he) ne_add_take
              | rest m1 tos => exact absurd (vstr.mp he) ne_rest_take
              | take k1 to ot => exact ⟨k1, to, ot, rfl⟩
            have e2' := e2
            rw [hxe] at e2'
            have e2' : H' b = some (.tup [.str "take", .int (k1 : Int), .int (to : Int), .int (ot : Int)]) := e2'
            refine ⟨_, rfl, _, rfl, b, _, _, _, rfl, rfl, SqT.of e2', atI1, _, rfl, _, _, rfl, rfl, _, _, rfl, ?_⟩
            rw [max_if]
            -- places.append(here); here, more = free_step(step, left); left, fall = ..
            refine ⟨_, rfl, .inl ⟨rfl, _, SqL.of hl'⟩, _, rfl, l, _, _, rfl, rfl, hl', hxl, ?_⟩
            refine ⟨_, rfl, _, rfl, b, x, _, _, M, rfl, e2.mono (Tups.upd hl' (fun _ z => by cases z)), hfin, ok, fun q hq => ?_⟩
            have nql : q ≠ l := fun z => by
              rw [z, upd_same] at hq
              cases hq
            have hq0 : H' q = none := by
              rw [upd_ne nql] at hq
              exact hq
            rw [hfx]
            refine ⟨q, _, rfl, SqT.of upd_same, rfl, _, _, rfl, _, _, rfl, rfl, ?_⟩
            refine ⟨_, rfl, _, rfl, _, _, rfl, rfl, _, rfl, _, _, rfl, rfl, by have := o.m1; omega, _, rfl, _, rfl, _, _, rfl, rfl, _, _, rfl, ?_⟩
            generalize hH2 : upd (upd H' l (.lst (xs ++ [.int ((Fj.1 : Nat) : Int)]))) q (.tup [.int (((K53M.freeX x Fj.2).1 : Nat) : Int), .int (K53M.freeX x Fj.2).2]) = H2
            have hl2 : H2 l = some (.lst (xs ++ [.int ((Fj.1 : Nat) : Int)])) := by
              rw [← hH2, upd_ne nql.symm, upd_same]
            have hl0 : ∀ c u, H c = some u → c ≠ l := fun c u e z => by
              rw [z, hl] at e
              cases e
            have S2 : Same H H2 := fun c u e => by
              have h5 := hS c u e
              rw [← hH2, upd_ne (fun z => by rw [z, hq0] at h5; cases h5), upd_ne (hl0 c u e)]
              exact h5
            refine ⟨_, rfl, _, rfl, rfl, _, rfl, itD (fun hh => ?_) fun hh => ?_⟩
            · refine ⟨_, rfl, _, rfl, rfl, _, rfl, itD (fun hh2 => ?_) fun hh2 => ?_⟩
              · -- the round is closed
                have hret : K53M.Beg M (K53M.frN G (j + 1) (p, r)) (p, r) := hbeg.mpr ⟨Int.ofNat.inj (vint.mp hh), by rw [← hleft]; exact vint.mp hh2⟩
                refine ⟨_, rfl, l, _, rfl, .inl (SqL.of hl2), _, rfl, _, rfl, _, rfl, l, _, rfl, .inl ⟨SqL.of hl2, fun q2 hq2 => ?_⟩⟩
                intro xr dxr nx nd nxd
                refine ⟨xr, cR, dxr, _, _, _, _, rfl, rfl, upd_same, rfl, ?_⟩
                rw [upd_upd]
                refine k _ _ ?_ (.inr ⟨xr, dxr, j + 1, .ref q2, rfl, ⟨by omega, hj1, hret, fun i h0 hi => hnb i h0 (by omega)⟩, ?_⟩)
                · exact ((S2.trans (Same.new hq2)).trans (Same.new nd)).trans (Same.new (by rw [upd_ne nxd.symm]; exact nx))
                · rw [upd_same, List.length_append, hxs, ← hfall, hneed _ _ _ hxe]
                  rfl
              · refine ⟨m - 1, by omega, j + 1, some (.ref b), some (.int (K53M.freeX x Fj.2).2), _, by omega, by rw [List.length_append, hxs]; rfl, S2, hl2, hj1, fun i h0 hi => ?_, ?_⟩
                · rcases Nat.lt_or_ge i (j + 1) with z | z
                  · exact hnb i h0 (by omega)
                  · rw [show i = j + 1 by omega]
                    intro z2
                    exact hh2 (vint.mpr (by rw [hleft, (hbeg.mp z2).2]))
                · rw [← hfall, ← hleft, hneed _ _ _ hxe, show (K53M.frN G (j + 1) (p, r)).1 = (K53M.freeX x Fj.2).1 by rw [hfr]]
                  rfl
            · refine ⟨m - 1, by omega, j + 1, some (.ref b), some (.int (K53M.freeX x Fj.2).2), _, by omega, by rw [List.length_append, hxs]; rfl, S2, hl2, hj1, fun i h0 hi => ?_, ?_⟩
              · rcases Nat.lt_or_ge i (j + 1) with z | z
                · exact hnb i h0 (by omega)
                · rw [show i = j + 1 by omega]
                  intro z2
                  exact hh (vint.mpr (by rw [(hbeg.mp z2).1]))
              · rw [← hfall, ← hleft, hneed _ _ _ hxe, show (K53M.frN G (j + 1) (p, r)).1 = (K53M.freeX x Fj.2).1 by rw [hfr]]
                rfl
          · have nt : ∀ k1 to ot, x ≠ .take k1 to ot := fun k1 to ot z => he (by rw [z]; rfl)
            -- places.append(here); here, more = free_step(step, left); left, fall = ..
            refine ⟨_, rfl, .inl ⟨rfl, _, SqL.of hl'⟩, _, rfl, l, _, _, rfl, rfl, hl', hxl, ?_⟩
            refine ⟨_, rfl, _, rfl, b, x, _, _, M, rfl, e2.mono (Tups.upd hl' (fun _ z => by cases z)), hfin, ok, fun q hq => ?_⟩
            have nql : q ≠ l := fun z => by
              rw [z, upd_same] at hq
              cases hq
            have hq0 : H' q = none := by
              rw [upd_ne nql] at hq
              exact hq
            rw [hfx]
            refine ⟨q, _, rfl, SqT.of upd_same, rfl, _, _, rfl, _, _, rfl, rfl, ?_⟩
            refine ⟨_, rfl, _, rfl, _, _, rfl, rfl, _, rfl, _, _, rfl, rfl, by have := o.m1; omega, _, rfl, _, rfl, _, _, rfl, rfl, _, _, rfl, ?_⟩
            generalize hH2 : upd (upd H' l (.lst (xs ++ [.int ((Fj.1 : Nat) : Int)]))) q (.tup [.int (((K53M.freeX x Fj.2).1 : Nat) : Int), .int (K53M.freeX x Fj.2).2]) = H2
            have hl2 : H2 l = some (.lst (xs ++ [.int ((Fj.1 : Nat) : Int)])) := by
              rw [← hH2, upd_ne nql.symm, upd_same]
            have hl0 : ∀ c u, H c = some u → c ≠ l := fun c u e z => by
              rw [z, hl] at e
              cases e
            have S2 : Same H H2 := fun c u e => by
              have h5 := hS c u e
              rw [← hH2, upd_ne (fun z => by rw [z, hq0] at h5; cases h5), upd_ne (hl0 c u e)]
              exact h5
            refine ⟨_, rfl, _, rfl, rfl, _, rfl, itD (fun hh => ?_) fun hh => ?_⟩
            · refine ⟨_, rfl, _, rfl, rfl, _, rfl, itD (fun hh2 => ?_) fun hh2 => ?_⟩
              · -- the round is closed
                have hret : K53M.Beg M (K53M.frN G (j + 1) (p, r)) (p, r) := hbeg.mpr ⟨Int.ofNat.inj (vint.mp hh), by rw [← hleft]; exact vint.mp hh2⟩
                refine ⟨_, rfl, l, _, rfl, .inl (SqL.of hl2), _, rfl, _, rfl, _, rfl, l, _, rfl, .inl ⟨SqL.of hl2, fun q2 hq2 => ?_⟩⟩
                intro xr dxr nx nd nxd
                refine ⟨xr, cR, dxr, _, _, _, _, rfl, rfl, upd_same, rfl, ?_⟩
                rw [upd_upd]
                refine k _ _ ?_ (.inr ⟨xr, dxr, j + 1, .ref q2, rfl, ⟨by omega, hj1, hret, fun i h0 hi => hnb i h0 (by omega)⟩, ?_⟩)
                · exact ((S2.trans (Same.new hq2)).trans (Same.new nd)).trans (Same.new (by rw [upd_ne nxd.symm]; exact nx))
                · rw [upd_same, List.length_append, hxs, ← hfall, hneed0 nt]
                  rfl
              · refine ⟨m - 1, by omega, j + 1, some (.ref b), some (.int (K53M.freeX x Fj.2).2), _, by omega, by rw [List.length_append, hxs]; rfl, S2, hl2, hj1, fun i h0 hi => ?_, ?_⟩
                · rcases Nat.lt_or_ge i (j + 1) with z | z
                  · exact hnb i h0 (by omega)
                  · rw [show i = j + 1 by omega]
                    intro z2
                    exact hh2 (vint.mpr (by rw [hleft, (hbeg.mp z2).2]))
                · rw [← hfall, ← hleft, hneed0 nt, show (K53M.frN G (j + 1) (p, r)).1 = (K53M.freeX x Fj.2).1 by rw [hfr]]
                  rfl
            · refine ⟨m - 1, by omega, j + 1, some (.ref b), some (.int (K53M.freeX x Fj.2).2), _, by omega, by rw [List.length_append, hxs]; rfl, S2, hl2, hj1, fun i h0 hi => ?_, ?_⟩
              · rcases Nat.lt_or_ge i (j + 1) with z | z
                · exact hnb i h0 (by omega)
                · rw [show i = j + 1 by omega]
                  intro z2
                  exact hh (vint.mpr (by rw [(hbeg.mp z2).1]))
              · rw [← hfall, ← hleft, hneed0 nt, show (K53M.frN G (j + 1) (p, r)).1 = (K53M.freeX x Fj.2).1 by rw [hfr]]
                rfl
      · have hj : G.length * M ≤ j := by
          rw [List.length_map, h2, hxs, ← Int.natCast_mul] at hge
          omega
        refine k _ _ hS (.inl ⟨rfl, fun n hn => ?_⟩)
        exact hnb n hn.pos (Nat.le_trans (o.round_le hp hn) hj) hn.ret
end
end K53
end

section
set_option Elab.async false
set_option linter.all false
set_option maxRecDepth 100000
set_option maxHeartbeats 4000000
/-! K53: Ways. -/
namespace K53
open PySem PySem.Spec PyProof.Rows L2
open K53M (Stp Pg S)
section
variable {P : Program} {w : World} {K : PySem.W.Frag} {mg : Str → Option Value} {base : Heap} {f : Addr} {fd : FuncData} {cR cY cW : Addr} {tN : Tok}
def yf (pr mn rd : V) : List (Str × V) := [("program", pr), ("many", mn), ("rounds", rd)]
theorem y1 : ¬ ("program" : Str) = "many" := by decide +kernel
theorem y2 : ¬ ("program" : Str) = "rounds" := by decide +kernel
theorem y3 : ¬ ("many" : Str) = "rounds" := by decide +kernel
theorem y4 : (("many" : Str) == "program") = false := by decide +kernel
theorem y5 : (("rounds" : Str) == "program") = false := by decide +kernel
theorem y6 : (("rounds" : Str) == "many") = false := by decide +kernel
theorem yf2_put (pr mn : V) : putF "many" mn (putF "program" pr []) = ([("program", pr), ("many", mn)] : List (Str × V)) := by
  simp only [putF, if_neg y1]
theorem yf2_many (pr mn : V) : ([("program", pr), ("many", mn)] : List (Str × V)).lookup ("many" : Str) = some mn := by
  rw [List.lookup_cons, y4]
  rfl
theorem yf_put (pr mn rd : V) : putF "rounds" rd ([("program", pr), ("many", mn)] : List (Str × V)) = yf pr mn rd := by
  simp only [putF, if_neg y2, if_neg y3]
  rfl
theorem yf_program (pr mn rd : V) : (yf pr mn rd).lookup ("program" : Str) = some pr := rfl
theorem yf_many (pr mn rd : V) : (yf pr mn rd).lookup ("many" : Str) = some mn := by
  unfold yf
  rw [List.lookup_cons, y4]
  rfl
theorem yf_rounds (pr mn rd : V) : (yf pr mn rd).lookup ("rounds" : Str) = some rd := by
  unfold yf
  rw [List.lookup_cons, y5, List.lookup_cons, y6]
  rfl
def kyN (p r : Nat) : List Key := [.inl (p : Int), .inl (r : Int)]
/-- a program with its rounds -/
def WaysAt (cR cY : Addr) (H : Hp) (wa : Addr) (G : Pg) (M : Nat) : Prop := ∃ (dx pa d : Addr) (kvs : List (List Key × V)), H wa = some (.ins cY dx (yf (.ref pa) (.int (M : Int)) (.ref d))) ∧ PgAt H pa G ∧ H d = some (.dT kvs) ∧
  ∀ p r : Nat, p < G.length → r < M → ∃ v, valV kvs (kyN p r) = some v ∧ RoundV cR H v G M (p, (r : Int))
theorem WaysAt.mono {H H' : Hp} (h : Same H H') {wa : Addr} {G : Pg} {M : Nat} (x : WaysAt cR cY H wa G M) : WaysAt cR cY H' wa G M := by
  obtain ⟨dx, pa, d, kvs, h1, h2, h3, h4⟩ := x
  refine ⟨dx, pa, d, kvs, h _ _ h1, h2.mono (Same.tups h), h _ _ h3, fun p r hp hr => ?_⟩
  obtain ⟨v, e1, e2⟩ := h4 p r hp hr
  exact ⟨v, e1, e2.mono h⟩
/-- the begins that were listed -/
def Begins (H : Hp) (D : Addr) (M n : Nat) : Prop := ∃ ts : List Addr, H D = some (.lst (ts.map V.ref)) ∧ ts.length = n ∧ ∀ (k : Nat) (t : Addr), ts[k]? = some t → H t = some (.tup [.int ((k / M : Nat) : Int), .int ((k % M : Nat) : Int)])
theorem Begins.snoc {H : Hp} {D p : Addr} {M n i j : Nat} (h : Begins H D M n) (hn : n = i * M + j) (hj : j < M) (hp : H p = none) : ∃ acc, upd H p (.tup [.int (i : Int), .int (j : Int)]) D = some (.lst acc) ∧ acc.length = n ∧
    Begins (upd (upd H p (.tup [.int (i : Int), .int (j : Int)])) D (.lst (acc ++ [.ref p]))) D M (n + 1) := by
  obtain ⟨ts, h1, h2, h3⟩ := h
  have npD : D ≠ p := ne_of_none h1 hp
  refine ⟨ts.map V.ref, by rw [upd_ne npD]; exact h1, by rw [List.length_map, h2], ts ++ [p], by rw [upd_same, List.map_append]; rfl, by rw [List.length_append, h2]; rfl, fun k t e => ?_⟩
  rcases Nat.lt_or_ge k ts.length with q | q
  · rw [List.getElem?_append_left q] at e
    have h5 := h3 k t e
    rw [upd_ne (fun z => by rw [z, h1] at h5; cases h5), upd_ne (ne_of_none h5 hp)]
    exact h5
  · rw [List.getElem?_append_right q] at e
    have hk : k - ts.length = 0 := by
      have := (List.getElem?_eq_some_iff.mp e).1
      simpa using this
    rw [hk] at e
    have e : p = t := Option.some.inj e
    subst e
    have hk2 : k = i * M + j := by omega
    have d1 : k / M = i := by rw [hk2, Nat.mul_comm, Nat.mul_add_div (by omega), Nat.div_eq_of_lt hj, Nat.add_zero]
    have d2 : k % M = j := by rw [hk2, Nat.mul_comm, Nat.mul_add_mod, Nat.mod_eq_of_lt hj]
    rw [upd_ne npD.symm, upd_same, d1, d2]
theorem Begins.mono {H H' : Hp} {D : Addr} {M n : Nat} (h : Begins H D M n) (s : Same H H') : Begins H' D M n := by
  obtain ⟨ts, h1, h2, h3⟩ := h
  exact ⟨ts, s _ _ h1, h2, fun k t e => s _ _ (h3 k t e)⟩
def spYInit (cR cY : Addr) : Sp := fun vs H Q _ => ∃ (p dx pa : Addr) (G : Pg), vs = [.ref p, .ref pa] ∧ H p = some (.ins cY dx []) ∧ PgAt H pa G ∧ K53M.Ok G (K53M.roundM G) ∧ ∀ H', SameE [p] H H' → WaysAt cR cY H' p G (K53M.roundM G) → Q .non H'
theorem SameE.to {p : Addr} {H H' : Hp} (h : ∀ b o, b ≠ p → H b = some o → H' b = some o) : SameE [p] H H' := fun b o n e => h b o (fun z => n (by rw [z]; exact List.mem_singleton.mpr rfl)) e
theorem SameE.of {p b : Addr} {H H' : Hp} {o : HO} (h : SameE [p] H H') (n : b ≠ p) (e : H b = some o) : H' b = some o := h b o (fun z => n (List.mem_singleton.mp z)) e
theorem PgAt.e {p : Addr} {H H' : Hp} (h : SameE [p] H H') {o : HO} (hp : H p = some o) (ho : ∀ xs, o ≠ .tup xs) : Tups H H' := fun b xs e => h.of (fun z => by rw [z, hp] at e; exact ho xs (Option.some.inj e)) e
theorem RoundV.e {p : Addr} {H H' : Hp} {v : V} {G : Pg} {M : Nat} {s : S} (h : SameE [p] H H') {o : HO} (hp : H p = some o) (ho : ∀ dx a b c d, o ≠ .ins cR dx (rf a b c d)) (x : RoundV cR H v G M s) : RoundV cR H' v G M s := by
  rcases x with x | ⟨y, dx, n, pl, h1, h2, h3⟩
  · exact .inl x
  · exact .inr ⟨y, dx, n, pl, h1, h2, h.of (fun z => by rw [z, hp] at h3; exact ho _ _ _ _ _ (Option.some.inj h3)) h3⟩
theorem ok_Ways_init (T : Txt K mg cR cY cW tN) (F : FnP K "__init__" "Ways.__init__" s_Ways_init f fd) {f1 fd1 f2 fd2} (C_round_number : CalOk P w K mg base "round_number" 3 ["program"] spRM f1 fd1)
    (C_round_at : CalOk P w K mg base "round_at" 3 ["program", "place", "rest", "many"] (spRA cR) f2 fd2) : FnOk P w K mg base CX0 4 f fd ["self", "program"] (spYInit cR cY) := by
  refine F.ok sc_Ways_init (fun vs H Q E h => ?_) (fun cdv A outer s H vs Q E hr h => ?_)
  · obtain ⟨p, dx, pa, G, rfl, _⟩ := h
    rfl
  · obtain ⟨p, dx, pa, G, rfl, hp, hG, o, k⟩ := h
    refine ⟨_, PSs.nox (pss_cons (ps_fld (pv 0) (pv 1) rfl)
      (pss_cons (ps_fld (pv 0) (pe_call C_round_number.G (hr.mono (by decide)) rfl C_round_number.m C_round_number.kp C_round_number.b .nil pass0 (pa_cons (pv 1) pa_nil)) rfl)
      (pss_cons (ps_setLc2 (i := 2) (own := [("place", 3), ("rest", 4)]) (vs1 := [4]) (by rfl) sc_Ways_init.nd rfl rfl (sw_true rfl rfl rfl (by decide +kernel)) (pi_range1 rfl T.range_ (pa_cons (pe_callB call_len_seq (by rfl) T.len_ (by decide +kernel) (pa_cons (pv 1) pa_nil)) pa_nil)) (blkOk_by (N := N_Ways_init) (sc := defScope s_Ways_init) (by decide +kernel)) (by decide) (fun _ _ _ _ _ => (pg_name (i := 3) sc_Ways_init.nd rfl (Or.inl rfl))) (fun _ _ _ _ _ => pts_nil) (fun _ _ _ _ _ => (pi_range1 rfl T.range_ (pa_cons (pe_fldB (K := K) rfl (pv 0) rfl) pa_nil))) (fun _ _ _ _ _ => (pg_name (i := 4) sc_Ways_init.nd rfl (Or.inl rfl))) (fun _ _ _ _ _ => pts_nil) (fun _ _ _ _ _ => (pe_tup (pa_cons (pv 3) (pa_cons (pv 4) pa_nil)))))
      (pss_one (ps_fld (pv 0) (pe_dcT (own := [("begin", 5)]) (hu_of hr) (by rfl) sc_Ways_init.nd (pi_list (pv 2)) (blkOk_by (N := N_Ways_init) (sc := defScope s_Ways_init) (by decide +kernel)) (fun _ _ _ _ _ => (pg_name (i := 5) sc_Ways_init.nd rfl (Or.inl rfl))) (fun _ _ _ _ _ => (pv 5)) (fun _ _ _ _ _ => (pe_call C_round_at.G (hr.mono (by decide)) rfl C_round_at.m C_round_at.kp C_round_at.b .nil pass0 (pa_cons (pv 1) (pa_cons (pe_ix (ix_tupB (K := K) rfl) (pv 5) pe_int (fun _ _ => rfl)) (pa_cons (pe_ix (ix_tupB (K := K) rfl) (pv 5) pe_int (fun _ _ => rfl)) (pa_cons (pe_fldB (K := K) rfl (pv 0) rfl) pa_nil))))))) rfl))))), ?_⟩
    generalize hM : K53M.roundM G = M at o k
    have o36 := o.le36
    have m1 := o.m1
    have hln : 1000 < sizeLine := by decide
    -- self.program = program; self.many = round_number(program)
    refine ⟨_, rfl, _, rfl, p, cY, dx, _, rfl, hp, T.clWays, T.nYp, by decide, ?_⟩
    refine ⟨_, rfl, pa, G, rfl, hG.mono (Tups.upd hp (fun _ z => by cases z)), by rw [hM]; exact o, _, rfl, p, cY, dx, _, rfl, upd_same, T.clWays, T.nYm, Nat.lt_of_le_of_lt (putF_le _ _ _) (by decide), ?_⟩
    rw [upd_upd, yf2_put, hM]
    generalize hH1 : upd H p (.ins cY dx ([("program", .ref pa), ("many", .int (M : Int))] : List (Str × V))) = H1
    have hp1 : H1 p = some (.ins cY dx ([("program", .ref pa), ("many", .int (M : Int))] : List (Str × V))) := by rw [← hH1, upd_same]
    have S1 : SameE [p] H H1 := SameE.to fun b u n e => by rw [← hH1, upd_ne n]; exact e
    have hG1 : PgAt H1 pa G := hG.mono (PgAt.e S1 hp (fun _ z => by cases z))
    obtain ⟨as, h1, h2, h3⟩ := id hG1
    -- begins = [..]
    refine ⟨_, rfl, pa, _, rfl, .inr (SqT.of h1), (as.length : Int), by rw [List.length_map], by have := o.l6; omega, by have := o.l6; omega, fun D hD => ?_⟩
    have hLn : ((as.length : Nat) : Int).toNat = G.length := by omega
    rw [hLn]
    have nb0 : Begins (upd H1 D (.lst [])) D M 0 := ⟨[], upd_same, rfl, fun k t e => by simp at e⟩
    have S0 : Same H1 (upd H1 D (.lst [])) := Same.new hD
    refine ⟨fun i m H' => m + i = G.length ∧ Same H1 H' ∧ Begins H' D M (i * M), ⟨G.length, rfl, S0, by rw [Nat.zero_mul]; exact nb0⟩, ?_⟩
    rintro i m H' ⟨hm, hS, hB⟩
    cases m with
    | zero =>
      have ei : i = G.length := by omega
      subst ei
      refine .inl ⟨Nat.le_refl _, ?_⟩
      -- self.rounds = {..}
      obtain ⟨ts, t1, t2, t3⟩ := id hB
      refine ⟨_, rfl, D, rfl, ⟨_, SqL.of t1⟩, fun d hd => ?_⟩
      refine dcT_list (K := K) (a := D) (xs := ts.map V.ref) (fun i H2 => Same H' H2 ∧ ∃ kvs : List (List Key × V), H2 d = some (.dT kvs) ∧ kvs.length ≤ i ∧ ∀ k, k < i → ∃ v, valV kvs (kyN (k / M) (k % M)) = some v ∧ RoundV cR H2 v G M (k / M, ((k % M : Nat) : Int)))
        ⟨Same.new hd, [], upd_same, Nat.zero_le _, fun k hk => absurd hk (Nat.not_lt_zero k)⟩ (fun i H2 _ e => SqL.of (e.1 _ _ t1)) ?_ ?_
      · rintro i x H2 hi ⟨hS2, kvs, hd2, hlen, hk2⟩
        have hlt : i < ts.length := by
          have := (List.getElem?_eq_some_iff.mp hi).1
          rwa [List.length_map] at this
        have et : ts[i]? = some ts[i] := List.getElem?_eq_getElem hlt
        generalize ts[i] = t at et
        rw [List.getElem?_map, et] at hi
        cases hi
        have ht2 := hS2 _ _ (t3 i t et)
        have hi36 : i < G.length * M := by rw [← t2]; exact hlt
        have hq1 : i / M < G.length := (Nat.div_lt_iff_lt_mul (by omega)).mpr hi36
        have hq2 : i % M < M := Nat.mod_lt _ (by omega)
        refine ⟨rfl, _, rfl, _, rfl, _, rfl, t, _, _, _, rfl, rfl, SqT.of ht2, atI0, _, rfl, t, _, _, _, rfl, rfl, SqT.of ht2, atI1, _, rfl, p, cY, dx, _, _, rfl, hS2 _ _ (hS _ _ hp1), T.clWays, T.nYm, yf2_many _ _, ?_⟩
        refine ⟨pa, G, M, i / M, _, rfl, hG1.mono (Same.tups (hS.trans hS2)), o, hq1, Int.natCast_nonneg _, Int.ofNat_lt.mpr hq2, fun v H3 hS3 hv => ?_⟩
        have hd3 := hS3 _ _ hd2
        have E3 : SameE [d] H3 (upd H3 d (.dT (putK kvs (kyN (i / M) (i % M)) v))) := SameE.to fun b u n e => by rw [upd_ne n]; exact e
        have nd : ∀ dx a b c d, HO.dT kvs ≠ .ins cR dx (rf a b c d) := fun _ _ _ _ _ z => by cases z
        refine ⟨kvs, kyN (i / M) (i % M), t, rfl, hS3 _ _ ht2, hd3, by omega, ?_, _, upd_same, ?_, fun k hk => ?_⟩
        · intro b u e
          have nbd : b ≠ d := fun z => by
            rw [z, hd] at e
            cases e
          rw [upd_ne nbd]
          exact hS3 _ _ (hS2 _ _ e)
        · have := length_putK kvs (kyN (i / M) (i % M)) v
          omega
        · rw [valV_put]
          by_cases hki : k = i
          · subst hki
            rw [if_pos rfl]
            exact ⟨v, rfl, RoundV.e E3 hd3 nd hv⟩
          · rw [if_neg ?_]
            · obtain ⟨v2, e1, e2⟩ := hk2 k (by omega)
              exact ⟨v2, e1, RoundV.e E3 hd3 nd (e2.mono hS3)⟩
            · intro z
              have z1 := List.cons.inj z
              have z2 := List.cons.inj z1.2
              have e1 : k / M = i / M := Int.ofNat.inj (Sum.inl.inj z1.1)
              have e2 : k % M = i % M := Int.ofNat.inj (Sum.inl.inj z2.1)
              have q1 := Nat.div_add_mod k M
              have q2 := Nat.div_add_mod i M
              rw [e1, e2] at q1
              exact hki (q1.symm.trans q2)
      · rintro H2 ⟨hS2, kvs, hd2, hlen, hk2⟩
        have hp2 := hS2 _ _ (hS _ _ hp1)
        refine ⟨_, rfl, p, cY, dx, _, rfl, hp2, T.clWays, T.nYr, by show 2 < 1000; decide, ?_⟩
        rw [yf_put]
        have E2 : SameE [p] H2 (upd H2 p (.ins cY dx (yf (.ref pa) (.int (M : Int)) (.ref d)))) := SameE.to fun b u n e => by
          rw [upd_ne n]
          exact e
        have ndp : d ≠ p := fun z => by
          rw [z, hp2] at hd2
          cases hd2
        refine k _ ?_ ⟨dx, pa, d, kvs, upd_same, ?_, by rw [upd_ne ndp]; exact hd2, fun p' r' hp' hr' => ?_⟩
        · exact SameE.to fun b u n e => by
            rw [upd_ne n]
            exact hS2 _ _ (hS _ _ (S1.of n e))
        · exact (hG1.mono (Same.tups (hS.trans hS2))).mono (PgAt.e E2 hp2 (fun _ z => by cases z))
        · have hlt : p' * M + r' < ts.length := by
            rw [t2]
            have : (p' + 1) * M ≤ G.length * M := Nat.mul_le_mul_right M hp'
            rw [Nat.succ_mul] at this
            omega
          have d1 : (p' * M + r') / M = p' := by rw [Nat.mul_comm, Nat.mul_add_div (by omega), Nat.div_eq_of_lt hr', Nat.add_zero]
          have d2 : (p' * M + r') % M = r' := by rw [Nat.mul_comm, Nat.mul_add_mod, Nat.mod_eq_of_lt hr']
          rw [List.length_map] at hk2
          obtain ⟨v, e1, e2⟩ := hk2 _ hlt
          rw [d1, d2] at e1 e2
          exact ⟨v, e1, RoundV.e E2 hp2 (fun _ _ _ _ _ z => by
            have q := congrArg List.length (HO.ins.inj z).2.2
            cases q) e2⟩
    | succ m =>
      refine .inr ⟨(by show i < G.length; omega), fun H2 => Same H1 H2 ∧ Begins H2 D M ((i + 1) * M), fun H2 e => ⟨m, Nat.lt_succ_self m, by omega, e⟩, ?_⟩
      rintro x H2 ⟨rfl, rfl⟩
      refine ⟨rfl, _, rfl, p, cY, dx, _, _, rfl, hS _ _ hp1, T.clWays, T.nYm, yf2_many _ _, (M : Int), rfl, by have := o.m6; omega, by have := o.m6; omega, ?_⟩
      refine ⟨fun j m2 H3 => m2 + j = M ∧ Same H1 H3 ∧ Begins H3 D M (i * M + j), ⟨M, rfl, hS, hB⟩, ?_⟩
      rintro j m2 H3 ⟨hm2, hS3, hB3⟩
      cases m2 with
      | zero =>
        have ej : j = M := by omega
        subst ej
        refine .inl ⟨(by show (j : Int).toNat ≤ j; omega), hS3, ?_⟩
        rw [Nat.succ_mul]
        exact hB3
      | succ m2 =>
        refine .inr ⟨(by show j < (M : Int).toNat; omega), fun H4 => Same H1 H4 ∧ Begins H4 D M (i * M + (j + 1)), fun H4 e => ⟨m2, Nat.lt_succ_self m2, by omega, e⟩, ?_⟩
        rintro x H4 ⟨rfl, rfl⟩
        refine ⟨rfl, _, rfl, _, rfl, (by show 2 ≤ sizeLine; decide), fun q hq => ?_⟩
        rw [Int.zero_add, Int.zero_add]
        obtain ⟨acc, a1, a2, a3⟩ := hB3.snoc (p := q) (i := i) (j := j) rfl (by omega) hq
        refine ⟨acc, a1, ?_, ?_, a3⟩
        · rw [a2]
          have h9 : i * M + j < G.length * M := by
            have : (i + 1) * M ≤ G.length * M := Nat.mul_le_mul_right M (by omega)
            rw [Nat.succ_mul] at this
            omega
          omega
        · exact fun b u e => by
            have nbD : b ≠ D := fun z => by rw [z, hD] at e; cases e
            rw [upd_ne nbD, upd_ne (ne_of_none (hS3 _ _ e) hq)]
            exact hS3 _ _ e
end
end K53
end

section
set_option Elab.async false
set_option linter.all false
set_option maxRecDepth 100000
set_option maxHeartbeats 4000000
/-! K53: Walk. -/
namespace K53
open PySem PySem.Spec PyProof.Rows L2
open K53M (Stp Pg S)
section
variable {P : Program} {w : World} {K : PySem.W.Frag} {mg : Str → Option Value} {base : Heap} {f : Addr} {fd : FuncData} {cR cY cW : Addr} {tN : Tok}
def wf (wa : Addr) (p : Nat) (c : Int) : List (Str × V) := [("ways", .ref wa), ("place", .int (p : Int)), ("counter", .int c)]
theorem w1 : ¬ ("ways" : Str) = "place" := by decide +kernel
theorem w2 : ¬ ("ways" : Str) = "counter" := by decide +kernel
theorem w3 : ¬ ("place" : Str) = "counter" := by decide +kernel
theorem w4 : (("place" : Str) == "ways") = false := by decide +kernel
theorem w5 : (("counter" : Str) == "ways") = false := by decide +kernel
theorem w6 : (("counter" : Str) == "place") = false := by decide +kernel
theorem wf_put (wa : Addr) (p : Nat) (c : Int) : putF "counter" (.int c) (putF "place" (.int (p : Int)) (putF "ways" (.ref wa) [])) = wf wa p c := by
  simp only [putF, if_neg w1, if_neg w2, if_neg w3]
  rfl
theorem wf_ways (wa : Addr) (p : Nat) (c : Int) : (wf wa p c).lookup ("ways" : Str) = some (.ref wa) := rfl
theorem wf_place (wa : Addr) (p : Nat) (c : Int) : (wf wa p c).lookup ("place" : Str) = some (.int (p : Int)) := by
  unfold wf
  rw [List.lookup_cons, w4]
  rfl
theorem wf_counter (wa : Addr) (p : Nat) (c : Int) : (wf wa p c).lookup ("counter" : Str) = some (.int c) := by
  unfold wf
  rw [List.lookup_cons, w5, List.lookup_cons, w6]
  rfl
theorem wf_no {m : Str} (wa : Addr) (p : Nat) (c : Int) (h1 : (m == "ways") = false := by decide +kernel) (h2 : (m == "place") = false := by decide +kernel) (h3 : (m == "counter") = false := by decide +kernel) : (wf wa p c).lookup m = none := by
  unfold wf
  rw [List.lookup_cons, h1, List.lookup_cons, h2, List.lookup_cons, h3]
  rfl
theorem wf_setp (wa : Addr) (p q : Nat) (c : Int) : putF "place" (.int (q : Int)) (wf wa p c) = wf wa q c := by
  unfold wf
  simp only [putF, if_neg w1, if_pos]
theorem wf_setc (wa : Addr) (p : Nat) (c d : Int) : putF "counter" (.int d) (wf wa p c) = wf wa p d := by
  unfold wf
  simp only [putF, if_neg w2, if_neg w3, if_pos]
/-- a walk stands with s -/
structure Wst (cR cY cW : Addr) (H : Hp) (wk wa : Addr) (G : Pg) (M : Nat) (s : S) : Prop where
  at_ : ∃ dx, H wk = some (.ins cW dx (wf wa s.1 s.2))
  ways : WaysAt cR cY H wa G M
  ok : K53M.Ok G M
  lt : s.1 < G.length
theorem Wst.mono {H H' : Hp} {wk wa : Addr} {G : Pg} {M : Nat} {s : S} (h : Wst cR cY cW H wk wa G M s) (t : Same H H') : Wst cR cY cW H' wk wa G M s := by
  obtain ⟨⟨dx, e⟩, h2, h3, h4⟩ := h
  exact ⟨⟨dx, t _ _ e⟩, h2.mono t, h3, h4⟩
/-- the walk goes to another spot -/
theorem Wst.to {H H' : Hp} {wk wa : Addr} {G : Pg} {M : Nat} {s s' : S} (h : Wst cR cY cW H wk wa G M s) (t : SameE [wk] H H') (e : ∃ dx, H' wk = some (.ins cW dx (wf wa s'.1 s'.2))) (hp : s'.1 < G.length) : Wst cR cY cW H' wk wa G M s' := by
  obtain ⟨⟨dx, e0⟩, ⟨dy, pa, d, kvs, h1, h2, h3, h4⟩, h5, h6⟩ := h
  refine ⟨e, ⟨dy, pa, d, kvs, t.of (fun z => ?_) h1, h2.mono (PgAt.e t e0 (fun _ z => by cases z)), t.of (fun z => by rw [z, e0] at h3; cases h3) h3, fun p r hp hr => ?_⟩, h5, hp⟩
  · rw [z, e0] at h1
    have q := (HO.ins.inj (Option.some.inj h1)).2.2
    have q2 : (some ("ways" : Str)) = some ("program" : Str) := congrArg (fun l => (l.map (·.1)).head?) q
    exact absurd (Option.some.inj q2) (by decide +kernel)
  · obtain ⟨v, e1, e2⟩ := h4 p r hp hr
    exact ⟨v, e1, RoundV.e t e0 (fun _ _ _ _ _ z => by
      have q := congrArg List.length (HO.ins.inj z).2.2
      cases q) e2⟩
def spWInit (cW : Addr) : Sp := fun vs H Q _ => ∃ (p dx wa : Addr) (pl : Nat) (c : Int), vs = [.ref p, .ref wa, .int (pl : Int), .int c] ∧ H p = some (.ins cW dx []) ∧ Q .non (upd H p (.ins cW dx (wf wa pl c)))
theorem ok_Walk_init (T : Txt K mg cR cY cW tN) (F : FnP K "__init__" "Walk.__init__" s_Walk_init f fd) : FnOk P w K mg base CX0 1 f fd ["self", "ways", "place", "counter"] (spWInit cW) := by
  refine F.ok sc_Walk_init (fun vs H Q E h => ?_) (fun cdv A outer s H vs Q E hr h => ?_)
  · obtain ⟨p, dx, wa, pl, c, rfl, _⟩ := h
    rfl
  · obtain ⟨p, dx, wa, pl, c, rfl, hp, k⟩ := h
    refine ⟨_, PSs.nox (pss_cons (ps_fld (pv 0) (pv 1) rfl)
      (pss_cons (ps_fld (pv 0) (pv 2) rfl)
      (pss_one (ps_fld (pv 0) (pv 3) rfl)))), ?_⟩
    refine ⟨_, rfl, _, rfl, p, cW, dx, _, rfl, hp, T.clWalk, T.nWw, by decide, ?_⟩
    refine ⟨_, rfl, _, rfl, p, cW, dx, _, rfl, upd_same, T.clWalk, T.nWp, Nat.lt_of_le_of_lt (putF_le _ _ _) (by decide), ?_⟩
    rw [upd_upd]
    refine ⟨_, rfl, _, rfl, p, cW, dx, _, rfl, upd_same, T.clWalk, T.nWc, Nat.lt_of_le_of_lt (Nat.le_trans (putF_le _ _ _) (Nat.succ_le_succ (putF_le _ _ _))) (by decide), ?_⟩
    rw [upd_upd, wf_put]
    exact k
def spStep (cR cY cW : Addr) : Sp := fun vs H Q _ => ∃ (wk wa : Addr) (G : Pg) (M : Nat) (s : S), vs = [.ref wk] ∧ Wst cR cY cW H wk wa G M s ∧ ∀ b x, G[s.1]? = some x → StpAt H b x → Q (.ref b) H
theorem ok_Walk_step (T : Txt K mg cR cY cW tN) (F : FnP K "step" "Walk.step" s_Walk_step f fd) : FnOk P w K mg base CX0 1 f fd ["self"] (spStep cR cY cW) := by
  refine F.ok sc_Walk_step (fun vs H Q E h => ?_) (fun cdv A outer s H vs Q E hr h => ?_)
  · obtain ⟨wk, wa, G, M, s, rfl, _⟩ := h
    rfl
  · obtain ⟨wk, wa, G, M, s, rfl, hW, k⟩ := h
    refine ⟨_, PSs.nox (pss_one (ps_ret (pe_ix ix_tup (pe_fld (pe_fld (pv 0) rfl) rfl) (pe_fld (pv 0) rfl) (fun _ _ => rfl)))), ?_⟩
    obtain ⟨⟨dx, e⟩, ⟨dy, pa, d, kvs, h1, h2, h3, h4⟩, o, hp⟩ := hW
    obtain ⟨as, b, x, a1, a2, a3, a4, a5⟩ := h2.step hp
    exact ⟨_, rfl, wk, cW, dx, _, _, rfl, e, T.clWalk, T.nWw, wf_ways _ _ _, wa, cY, dy, _, _, rfl, h1, T.clWays, T.nYp, yf_program _ _ _, _, rfl, wk, cW, dx, _, _, rfl, e, T.clWalk, T.nWp, wf_place _ _ _, pa, _, _, _, rfl, rfl, SqT.of a1, atI_nat a3, k b x a4 a5⟩
theorem isEnd_dec {G : Pg} {p : Nat} {x : Stp} (e : G[p]? = some x) : decide (V.str (stpW x) = V.str "end") = K53M.isEnd G p := by
  unfold K53M.isEnd
  rw [e]
  cases x with
  | fin w => exact decide_eq_true rfl
  | add k to => exact decide_eq_false fun z => ne_add_end (vstr.mp z)
  | take k to o => exact decide_eq_false fun z => ne_take_end (vstr.mp z)
  | rest m tos => exact decide_eq_false fun z => ne_rest_end (vstr.mp z)
def spOver (cR cY cW : Addr) : Sp := fun vs H Q _ => ∃ (wk wa : Addr) (G : Pg) (M : Nat) (s : S), vs = [.ref wk] ∧ Wst cR cY cW H wk wa G M s ∧ Q (.bl (K53M.isEnd G s.1)) H
theorem ok_is_over (T : Txt K mg cR cY cW tN) (F : FnP K "is_over" "Walk.is_over" s_Walk_is_over f fd) {f1 fd1} (M_step : MetOk P w K mg base cW "step" 1 ["self"] (spStep cR cY cW) f1 fd1) : FnOk P w K mg base CX0 2 f fd ["self"] (spOver cR cY cW) := by
  refine F.ok sc_Walk_is_over (fun vs H Q E h => ?_) (fun cdv A outer s H vs Q E hr h => ?_)
  · obtain ⟨wk, wa, G, M, s, rfl, _⟩ := h
    rfl
  · obtain ⟨wk, wa, G, M, s, rfl, hW, k⟩ := h
    refine ⟨_, PSs.nox (pss_one (ps_ret (pe_cmpR op_eq (pe_ix ix_tup (pe_meth0 (pv 0) T.clWalk M_step.mt M_step.G (hr.mono (by decide)) M_step.b .nil pass0) pe_int (fun _ _ => rfl)) pe_str (nomark _)))), ?_⟩
    obtain ⟨dx, e⟩ := hW.at_
    refine ⟨_, rfl, wk, dx, _, rfl, e, wf_no _ _ _, wk, wa, G, M, s, rfl, hW, fun b x ex hx => ?_⟩
    obtain ⟨r, er⟩ := hx.word (K := K)
    refine ⟨b, _, _, _, rfl, rfl, SqT.of er, atI0, rfl, ?_⟩
    rw [isEnd_dec ex]
    exact k
def spRef (cR cY cW : Addr) : Sp := fun vs H Q _ => ∃ (wk wa : Addr) (G : Pg) (M : Nat) (s : S), vs = [.ref wk] ∧ Wst cR cY cW H wk wa G M s ∧ Q (.bl (K53M.isRef G s)) H
theorem ok_is_refused (T : Txt K mg cR cY cW tN) (F : FnP K "is_refused" "Walk.is_refused" s_Walk_is_refused f fd) {f1 fd1} (M_step : MetOk P w K mg base cW "step" 1 ["self"] (spStep cR cY cW) f1 fd1) : FnOk P w K mg base CX0 2 f fd ["self"] (spRef cR cY cW) := by
  refine F.ok sc_Walk_is_refused (fun vs H Q E h => ?_) (fun cdv A outer s H vs Q E hr h => ?_)
  · obtain ⟨wk, wa, G, M, s, rfl, _⟩ := h
    rfl
  · obtain ⟨wk, wa, G, M, s, rfl, hW, k⟩ := h
    refine ⟨_, PSs.nox (pss_cons (ps_set (i := 1) sc_Walk_is_refused.nd rfl (Or.inl rfl) (pe_meth0 (pv 0) T.clWalk M_step.mt M_step.G (hr.mono (by decide)) M_step.b .nil pass0))
      (pss_one (ps_ret (pe_and (pe_cmpR op_eq (pe_ix ix_tup (pv 1) pe_int (fun _ _ => rfl)) pe_str (nomark _)) (pe_one (pe_cmpR op_lt (pe_fld (pv 0) rfl) (pe_ix ix_tup (pv 1) pe_int (fun _ _ => rfl)) (nomark _))))))), ?_⟩
    obtain ⟨dx, e⟩ := hW.at_
    refine ⟨_, rfl, wk, dx, _, rfl, e, wf_no _ _ _, wk, wa, G, M, s, rfl, hW, fun b x ex hx => ?_⟩
    obtain ⟨r, er⟩ := hx.word (K := K)
    refine ⟨_, rfl, b, _, _, _, rfl, rfl, SqT.of er, atI0, rfl, _, rfl, itD (fun he => ?_) fun he => ?_⟩
    · cases x with
      | fin w => exact absurd (vstr.mp he) ne_end_take
      | add k to => exact absurd (vstr.mp he) ne_add_take
      | rest m tos => exact absurd (vstr.mp he) ne_rest_take
      | take k1 to ot =>
        have hx : H b = some (.tup [.str "take", .int (k1 : Int), .int (to : Int), .int (ot : Int)]) := hx
        refine ⟨_, rfl, wk, cW, dx, _, _, rfl, e, T.clWalk, T.nWc, wf_counter _ _ _, _, rfl, b, _, _, _, rfl, rfl, SqT.of hx, atI1, _, _, rfl, rfl, ?_⟩
        have e2 : K53M.isRef G s = decide (s.2 < (k1 : Int)) := by
          unfold K53M.isRef
          rw [ex]
        rw [e2] at k
        exact k
    · have e2 : K53M.isRef G s = false := by
        unfold K53M.isRef
        rw [ex]
        cases x with
        | take k1 to ot => exact absurd rfl he
        | _ => rfl
      rw [e2] at k
      exact k
def spSpot (cR cY cW : Addr) : Sp := fun vs H Q _ => ∃ (wk wa : Addr) (G : Pg) (M : Nat) (s : S), vs = [.ref wk] ∧ Wst cR cY cW H wk wa G M s ∧ ∀ p, H p = none → Q (.ref p) (upd H p (.tup [.int (s.1 : Int), .int s.2]))
theorem ok_spot (T : Txt K mg cR cY cW tN) (F : FnP K "spot" "Walk.spot" s_Walk_spot f fd) : FnOk P w K mg base CX0 1 f fd ["self"] (spSpot cR cY cW) := by
  refine F.ok sc_Walk_spot (fun vs H Q E h => ?_) (fun cdv A outer s H vs Q E hr h => ?_)
  · obtain ⟨wk, wa, G, M, s, rfl, _⟩ := h
    rfl
  · obtain ⟨wk, wa, G, M, s, rfl, hW, k⟩ := h
    refine ⟨_, PSs.nox (pss_one (ps_ret (pe_tup (pa_cons (pe_fld (pv 0) rfl) (pa_cons (pe_fld (pv 0) rfl) pa_nil))))), ?_⟩
    obtain ⟨dx, e⟩ := hW.at_
    exact ⟨_, rfl, wk, cW, dx, _, _, rfl, e, T.clWalk, T.nWp, wf_place _ _ _, _, rfl, wk, cW, dx, _, _, rfl, e, T.clWalk, T.nWc, wf_counter _ _ _, (by show 2 ≤ sizeLine; decide), k⟩
theorem RoundV.shift {H : Hp} {v : V} {G : Pg} {M : Nat} {a b : S} (o : K53M.Ok G M) (h : K53M.Beg M a b) (x : RoundV cR H v G M b) : RoundV cR H v G M a := by
  rcases x with ⟨h1, h2⟩ | ⟨x, dx, n, pl, h1, h2, h3⟩
  · exact .inl ⟨h1, fun n hn => h2 n (o.round_beg h.symm hn)⟩
  · refine .inr ⟨x, dx, n, pl, h1, o.round_beg h h2, ?_⟩
    rw [o.fallN_beg h, o.needN_beg h]
    exact h3
def spRH (cR cY cW : Addr) : Sp := fun vs H Q _ => ∃ (wk wa : Addr) (G : Pg) (M : Nat) (s : S), vs = [.ref wk] ∧ Wst cR cY cW H wk wa G M s ∧ ∀ v H', Same H H' → RoundV cR H' v G M s → Q v H'
theorem ok_round_here (T : Txt K mg cR cY cW tN) (F : FnP K "round_here" "Walk.round_here" s_Walk_round_here f fd) : FnOk P w K mg base CX0 1 f fd ["self"] (spRH cR cY cW) := by
  refine F.ok sc_Walk_round_here (fun vs H Q E h => ?_) (fun cdv A outer s H vs Q E hr h => ?_)
  · obtain ⟨wk, wa, G, M, s, rfl, _⟩ := h
    rfl
  · obtain ⟨wk, wa, G, M, s, rfl, hW, k⟩ := h
    refine ⟨_, PSs.nox (pss_one (ps_ret (pe_dget (hu_of hr) (pe_fld (pe_fld (pv 0) rfl) rfl) (pe_tup (pa_cons (pe_fld (pv 0) rfl) (pa_cons (pe_op op_mod (pe_fld (pv 0) rfl) (pe_fld (pe_fld (pv 0) rfl) rfl)) pa_nil))) (fun _ _ => rfl)))), ?_⟩
    obtain ⟨⟨dx, e⟩, ⟨dy, pa, d, kvs, h1, h2, h3, h4⟩, o, hp⟩ := hW
    have m1 := o.m1
    have a1 : 0 ≤ s.2 % (M : Int) := Int.emod_nonneg _ (by omega)
    have a2 : s.2 % (M : Int) < (M : Int) := Int.emod_lt_of_pos _ (by omega)
    have a3 : ((s.2 % (M : Int)).toNat : Int) = s.2 % (M : Int) := Int.toNat_of_nonneg a1
    obtain ⟨v, e1, e2⟩ := h4 s.1 (s.2 % (M : Int)).toNat hp (by omega)
    refine ⟨_, rfl, wk, cW, dx, _, _, rfl, e, T.clWalk, T.nWw, wf_ways _ _ _, wa, cY, dy, _, _, rfl, h1, T.clWays, T.nYr, yf_rounds _ _ _, ?_⟩
    refine ⟨_, rfl, wk, cW, dx, _, _, rfl, e, T.clWalk, T.nWp, wf_place _ _ _, _, rfl, wk, cW, dx, _, _, rfl, e, T.clWalk, T.nWc, wf_counter _ _ _, _, rfl, wk, cW, dx, _, _, rfl, e, T.clWalk, T.nWw, wf_ways _ _ _, wa, cY, dy, _, _, rfl, h1, T.clWays, T.nYm, yf_many _ _ _, _, _, rfl, rfl, by omega, (by show 2 ≤ sizeLine; decide), fun q hq => ?_⟩
    have S1 : Same H (upd H q (.tup [.int (s.1 : Int), .int (s.2 % (M : Int))])) := Same.new hq
    refine ⟨d, v, rfl, ?_, k _ _ S1 ?_⟩
    · have g := DGet.t (k := kyN s.1 (s.2 % (M : Int)).toNat) (b := q) (S1 _ _ h3) (by
        rw [upd_same]
        show _ = some (HO.tup [V.int (s.1 : Int), V.int (((s.2 % (M : Int)).toNat : Nat) : Int)])
        rw [a3])
      rw [e1] at g
      exact g
    · refine RoundV.shift o ?_ (e2.mono S1)
      refine ⟨rfl, ?_⟩
      show (M : Int) ∣ s.2 - ((s.2 % (M : Int)).toNat : Int)
      rw [a3]
      exact Int.dvd_self_sub_emod
/-- how often the round here goes, as a value -/
def TimesV (G : Pg) (M : Nat) (s : S) (v : V) : Prop := (v = .int 0 ∧ ∀ n, K53M.IsRound G M s n → s.2 < K53M.needN G s n) ∨
  (∃ n, K53M.IsRound G M s n ∧ K53M.needN G s n ≤ s.2 ∧ K53M.fallN G s n ≤ 0 ∧ v = .non) ∨
  ∃ n, K53M.IsRound G M s n ∧ K53M.needN G s n ≤ s.2 ∧ 0 < K53M.fallN G s n ∧ v = .int (K53M.tms G s n)
def spTH (cR cY cW : Addr) : Sp := fun vs H Q _ => ∃ (wk wa : Addr) (G : Pg) (M : Nat) (s : S), vs = [.ref wk] ∧ Wst cR cY cW H wk wa G M s ∧ ∀ v H', Same H H' → TimesV G M s v → Q v H'
theorem ok_times_here (T : Txt K mg cR cY cW tN) (F : FnP K "times_here" "Walk.times_here" s_Walk_times_here f fd) {f1 fd1 f2 fd2} (M_round_here : MetOk P w K mg base cW "round_here" 1 ["self"] (spRH cR cY cW) f1 fd1)
    (M_times_from : MetOk P w K mg base cR "times_from" 1 ["self", "counter"] (spTimes (cR := cR)) f2 fd2) : FnOk P w K mg base CX0 2 f fd ["self"] (spTH cR cY cW) := by
  refine F.ok sc_Walk_times_here (fun vs H Q E h => ?_) (fun cdv A outer s H vs Q E hr h => ?_)
  · obtain ⟨wk, wa, G, M, s, rfl, _⟩ := h
    rfl
  · obtain ⟨wk, wa, G, M, s, rfl, hW, k⟩ := h
    refine ⟨_, PSs.nox (pss_cons (ps_set (i := 1) sc_Walk_times_here.nd rfl (Or.inl rfl) (pe_meth0 (pv 0) T.clWalk M_round_here.mt M_round_here.G (hr.mono (by decide)) M_round_here.b .nil pass0))
      (pss_one (ps_ret (pe_ifExp (pt_cmp (pc_isN (pv 1)) rfl) pe_int (pe_meth (pv 1) T.clRound M_times_from.mt M_times_from.G (hr.mono (by decide)) M_times_from.b .nil pass0 (pa_cons (pe_fld (pv 0) rfl) pa_nil)))))), ?_⟩
    obtain ⟨dx, e⟩ := hW.at_
    refine ⟨_, rfl, wk, dx, _, rfl, e, wf_no _ _ _, wk, wa, G, M, s, rfl, hW, fun v H' hS hv => ?_⟩
    rcases hv with ⟨rfl, hn⟩ | ⟨x, dxr, n, pl, rfl, hr2, hx⟩
    · refine ⟨_, rfl, _, rfl, itD (fun _ => ?_) fun z => absurd rfl z⟩
      exact k _ _ hS (.inl ⟨rfl, fun n hr => absurd hr (hn n)⟩)
    · refine ⟨_, rfl, _, rfl, itD (fun z => by cases z) fun _ => ?_⟩
      have hf := (hW.ok.fall_sz hW.lt hr2).1
      refine ⟨_, rfl, x, dxr, _, rfl, hx, rfl, _, rfl, wk, cW, dx, _, _, rfl, hS _ _ e, T.clWalk, T.nWc, wf_counter _ _ _, x, dxr, _, pl, s.2, _, _, rfl, hx, hf, k _ _ hS ?_⟩
      unfold timesV
      by_cases h1 : s.2 < K53M.needN G s n
      · rw [if_pos h1]
        refine .inl ⟨rfl, fun m hm => ?_⟩
        rw [hm.uniq hr2]
        exact h1
      · rw [if_neg h1]
        by_cases h2 : K53M.fallN G s n ≤ 0
        · rw [if_pos h2]
          exact .inr (.inl ⟨n, hr2, by omega, h2, rfl⟩)
        · rw [if_neg h2]
          exact .inr (.inr ⟨n, hr2, by omega, by omega, rfl⟩)
def spGR (cR cY cW : Addr) : Sp := fun vs H Q _ => ∃ (wk wa : Addr) (G : Pg) (M : Nat) (s : S) (t : Int) (n : Nat), vs = [.ref wk, .int t] ∧ Wst cR cY cW H wk wa G M s ∧ K53M.IsRound G M s n ∧
  ∀ H', SameE [wk] H H' → Wst cR cY cW H' wk wa G M (s.1, s.2 - t * K53M.fallN G s n) → Q (.int (t * (n : Int))) H'
theorem ok_go_round (T : Txt K mg cR cY cW tN) (F : FnP K "go_round" "Walk.go_round" s_Walk_go_round f fd) {f1 fd1} (M_round_here : MetOk P w K mg base cW "round_here" 1 ["self"] (spRH cR cY cW) f1 fd1) : FnOk P w K mg base CX0 2 f fd ["self", "times"] (spGR cR cY cW) := by
  refine F.ok sc_Walk_go_round (fun vs H Q E h => ?_) (fun cdv A outer s H vs Q E hr h => ?_)
  · obtain ⟨wk, wa, G, M, s, t, n, rfl, _⟩ := h
    rfl
  · obtain ⟨wk, wa, G, M, s, t, n, rfl, hW, hn, k⟩ := h
    refine ⟨_, PSs.nox (pss_cons (ps_set (i := 2) sc_Walk_go_round.nd rfl (Or.inl rfl) (pe_meth0 (pv 0) T.clWalk M_round_here.mt M_round_here.G (hr.mono (by decide)) M_round_here.b .nil pass0))
      (pss_cons (ps_fldaug (pv 0) (pe_op op_mul (pv 1) (pe_fld (pv 2) rfl)) in_sub)
      (pss_one (ps_ret (pe_op op_mul (pv 1) (pe_fld (pv 2) rfl)))))), ?_⟩
    obtain ⟨dx, e⟩ := hW.at_
    refine ⟨_, rfl, wk, dx, _, rfl, e, wf_no _ _ _, wk, wa, G, M, s, rfl, hW, fun v H' hS hv => ?_⟩
    rcases hv with ⟨rfl, hno⟩ | ⟨x, dxr, n', pl, rfl, hr2, hx⟩
    · exact absurd hn (hno n)
    · obtain rfl := hr2.uniq hn
      have hf := hW.ok.fall_sz hW.lt hr2
      refine ⟨_, rfl, wk, cW, dx, _, _, rfl, hS _ _ e, T.clWalk, T.nWc, wf_counter _ _ _, _, rfl, _, rfl, x, cR, dxr, _, _, rfl, hx, T.clRound, T.nRf, rf_fall _ _ _ _, _, _, rfl, rfl, .inr ⟨by omega, by omega⟩, _, _, rfl, rfl, dx, _, hS _ _ e, by show 3 < 1000; decide, ?_⟩
      rw [wf_setc]
      have nx : x ≠ wk := fun z => by
        rw [z, hS _ _ e] at hx
        have q := congrArg List.length (HO.ins.inj (Option.some.inj hx)).2.2
        cases q
      refine ⟨_, rfl, _, rfl, x, cR, dxr, _, _, rfl, by rw [upd_ne nx]; exact hx, T.clRound, T.nRs, rf_steps _ _ _ _, _, _, rfl, rfl, .inr ⟨by omega, by omega⟩, ?_⟩
      refine k _ ?_ ((hW.mono hS).to (SameE.to fun b u n e => by rw [upd_ne n]; exact e) ⟨dx, upd_same⟩ hW.lt)
      exact SameE.to fun b u n e => by
        rw [upd_ne n]
        exact hS _ _ e
def spGO (cR cY cW : Addr) : Sp := fun vs H Q _ => ∃ (wk wa : Addr) (G : Pg) (M : Nat) (s : S), vs = [.ref wk] ∧ Wst cR cY cW H wk wa G M s ∧ K53M.isEnd G s.1 = false ∧
  ∀ H', SameE [wk] H H' → Wst cR cY cW H' wk wa G M (K53M.step G s) → Q .non H'
theorem ok_go_on (T : Txt K mg cR cY cW tN) (F : FnP K "go_on" "Walk.go_on" s_Walk_go_on f fd) {f1 fd1 f2 fd2 f3 fd3} (M_step : MetOk P w K mg base cW "step" 1 ["self"] (spStep cR cY cW) f1 fd1) (M_is_refused : MetOk P w K mg base cW "is_refused" 2 ["self"] (spRef cR cY cW) f2 fd2)
    (C_free_step : CalOk P w K mg base "free_step" 1 ["step", "counter"] spFree f3 fd3) : FnOk P w K mg base CX0 3 f fd ["self"] (spGO cR cY cW) := by
  refine F.ok sc_Walk_go_on (fun vs H Q E h => ?_) (fun cdv A outer s H vs Q E hr h => ?_)
  · obtain ⟨wk, wa, G, M, s, rfl, _⟩ := h
    rfl
  · obtain ⟨wk, wa, G, M, s, rfl, hW, he, k⟩ := h
    refine ⟨_, PSs.nox (pss_cons (ps_set (i := 1) sc_Walk_go_on.nd rfl (Or.inl rfl) (pe_meth0 (pv 0) T.clWalk M_step.mt M_step.G (hr.mono (by decide)) M_step.b .nil pass0))
      (pss_one (ps_if (pt_val (pe_meth0 (pv 0) T.clWalk M_is_refused.mt M_is_refused.G (hr.mono (by decide)) M_is_refused.b .nil pass0)) (pss_one (ps_fld (pv 0) (pe_ix ix_tup (pv 1) pe_int (fun _ _ => rfl)) rfl)) (pss_cons (ps_asg (pe_call C_free_step.G (hr.mono (by decide)) rfl C_free_step.m C_free_step.kp C_free_step.b .nil pass0 (pa_cons (pv 1) (pa_cons (pe_fld (pv 0) rfl) pa_nil))) (pg_tup rfl (pgs_cons (pg_fld (pv 0)) (pgs_cons (pg_name (i := 2) sc_Walk_go_on.nd rfl (Or.inl rfl)) pgs_nil))))
      (pss_one (ps_fldaug (pv 0) (pv 2) in_add)))))), ?_⟩
    obtain ⟨dx, e⟩ := hW.at_
    refine ⟨_, rfl, wk, dx, _, rfl, e, wf_no _ _ _, wk, wa, G, M, s, rfl, hW, fun b x ex hx => ?_⟩
    have ok := hW.ok.st _ _ ex
    refine ⟨_, rfl, wk, dx, _, rfl, e, wf_no _ _ _, wk, wa, G, M, s, rfl, hW, _, rfl, itB (fun hR => ?_) fun hR => ?_⟩
    · -- refused
      have hst : K53M.step G s = (K53M.other G s.1, s.2) := by
        unfold K53M.step
        rw [if_pos hR]
      obtain ⟨k1, to, ot, rfl⟩ : ∃ k1 to ot, x = .take k1 to ot := by
        unfold K53M.isRef at hR
        rw [ex] at hR
        cases x with
        | take k1 to ot => exact ⟨k1, to, ot, rfl⟩
        | _ => cases hR
      have hot : K53M.other G s.1 = ot := by
        unfold K53M.other
        rw [ex]
      have hx : H b = some (.tup [.str "take", .int (k1 : Int), .int (to : Int), .int (ot : Int)]) := hx
      refine ⟨_, rfl, b, _, _, _, rfl, rfl, SqT.of hx, atI3, _, rfl, wk, cW, dx, _, rfl, e, T.clWalk, T.nWp, (by show 3 < 1000; decide), ?_⟩
      rw [wf_setp]
      have E1 : SameE [wk] H (upd H wk (.ins cW dx (wf wa ot s.2))) := SameE.to fun b u n e => by
        rw [upd_ne n]
        exact e
      exact k _ E1 (hW.to E1 ⟨dx, by rw [upd_same, hst, hot]⟩ (hW.ok.step_lt hW.lt))
    · have hfin : ∀ w, x ≠ .fin w := fun w z => by
        rw [z] at ex
        rw [K53M.fin_isEnd ex] at he
        cases he
      have hst : K53M.step G s = ((K53M.freeX x s.2).1, s.2 + (K53M.freeX x s.2).2) := by
        unfold K53M.step
        rw [if_neg (by rw [hR]; decide)]
        exact K53M.free_X ex hfin
      refine ⟨_, rfl, _, rfl, wk, cW, dx, _, _, rfl, e, T.clWalk, T.nWc, wf_counter _ _ _, b, x, s.2, _, M, rfl, hx, hfin, ok, fun q hq => ?_⟩
      have nq : wk ≠ q := ne_of_none e hq
      refine ⟨q, _, rfl, SqT.of upd_same, rfl, _, _, rfl, _, rfl, wk, cW, dx, _, rfl, by rw [upd_ne nq]; exact e, T.clWalk, T.nWp, (by show 3 < 1000; decide), _, _, rfl, rfl, ?_⟩
      rw [wf_setp]
      refine ⟨_, rfl, wk, cW, dx, _, _, rfl, upd_same, T.clWalk, T.nWc, wf_counter _ _ _, _, rfl, _, _, rfl, rfl, dx, _, upd_same, by show 3 < 1000; decide, ?_⟩
      rw [upd_upd, wf_setc]
      have E1 : SameE [wk] H (upd (upd H q (.tup [.int (((K53M.freeX x s.2).1 : Nat) : Int), .int (K53M.freeX x s.2).2])) wk (.ins cW dx (wf wa (K53M.freeX x s.2).1 (s.2 + (K53M.freeX x s.2).2)))) := SameE.to fun b u n e => by
        rw [upd_ne n, upd_ne (ne_of_none e hq)]
        exact e
      exact k _ E1 (hW.to E1 ⟨dx, by rw [upd_same, hst]⟩ (hW.ok.step_lt hW.lt))
end
end K53
end

section
set_option Elab.async false
set_option linter.all false
set_option maxRecDepth 100000
set_option maxHeartbeats 4000000
/-! K53: course, answer, length. -/
namespace K53
open PySem PySem.Spec PyProof.Rows L2
open K53M (Stp Pg S)
section
variable {P : Program} {w : World} {K : PySem.W.Frag} {mg : Str → Option Value} {base : Heap} {f : Addr} {fd : FuncData} {cR cY cW : Addr} {tN : Tok}
def ky (s : S) : List Key := [.inl (s.1 : Int), .inl s.2]
theorem ky_inj {a b : S} (h : ky a = ky b) : a = b := by
  have z1 := List.cons.inj h
  have z2 := List.cons.inj z1.2
  exact Prod.ext (Int.ofNat.inj (Sum.inl.inj z1.1)) (Sum.inl.inj z2.1)
def enc (l : List (S × Nat)) : List (List Key × V) := l.map fun x => (ky x.1, V.int (x.2 : Int))
theorem enc_len (l : List (S × Nat)) : (enc l).length = l.length := List.length_map ..
theorem enc_some {s : S} {v : V} : ∀ {l : List (S × Nat)}, valV (enc l) (ky s) = some v → ∃ c0, (s, c0) ∈ l ∧ v = .int (c0 : Int)
  | [], h => by cases h
  | (x, c) :: r, h => by
    by_cases e : ky x = ky s
    · have h2 : valV (enc ((x, c) :: r)) (ky s) = some (V.int (c : Int)) := valV_pos (p := (ky x, V.int (c : Int))) e
      rw [h2] at h
      cases h
      rw [ky_inj e]
      exact ⟨c, List.mem_cons_self, rfl⟩
    · have h2 : valV (enc ((x, c) :: r)) (ky s) = valV (enc r) (ky s) := valV_neg (p := (ky x, V.int (c : Int))) e
      rw [h2] at h
      obtain ⟨c0, m, q⟩ := enc_some h
      exact ⟨c0, List.mem_cons_of_mem _ m, q⟩
theorem enc_none {s : S} : ∀ {l : List (S × Nat)}, valV (enc l) (ky s) = none → ∀ c0, ¬ (s, c0) ∈ l
  | [], h, c0, m => by cases m
  | (x, c) :: r, h, c0, m => by
    by_cases e : ky x = ky s
    · have h2 : valV (enc ((x, c) :: r)) (ky s) = some (V.int (c : Int)) := valV_pos (p := (ky x, V.int (c : Int))) e
      rw [h2] at h
      cases h
    · have h2 : valV (enc ((x, c) :: r)) (ky s) = valV (enc r) (ky s) := valV_neg (p := (ky x, V.int (c : Int))) e
      rw [h2] at h
      rcases List.mem_cons.mp m with q | q
      · exact e (by rw [(Prod.mk.inj q).1])
      · exact enc_none h c0 q
theorem enc_snoc {s : S} {c : Nat} {l : List (S × Nat)} (h : valV (enc l) (ky s) = none) : putK (enc l) (ky s) (V.int (c : Int)) = enc (l ++ [(s, c)]) := by
  rw [putK_new _ h]
  unfold enc
  rw [List.map_append]
  rfl
def spCourse (cR cY : Addr) : Sp := fun vs H Q _ => ∃ (wa : Addr) (G : Pg) (M p : Nat) (c : Int), vs = [.ref wa, .int (p : Int), .int c] ∧ WaysAt cR cY H wa G M ∧ K53M.Ok G M ∧ p < G.length ∧ 0 ≤ c ∧
  ∀ (t : Addr) (H' : Hp) (r : Option (Bool × Nat)) (cn mo : V), Same H H' → K53M.Ans G (p, c) r → H' t = some (.tup [.str (wordO r), cn, mo]) → (∀ b N, r = some (b, N) → cn = .int (N : Int)) → Q (.ref t) H'
theorem ok_course (T : Txt K mg cR cY cW tN) (F : FnP K "course" "course" s_course f fd) {f1 fd1 f2 fd2 f3 fd3 f4 fd4 f5 fd5 f6 fd6 f7 fd7 f8 fd8}
    (CWalk : ConOk P w K mg base cW "Walk" 1 ["self", "ways", "place", "counter"] (spWInit cW) f1 fd1) (M_is_over : MetOk P w K mg base cW "is_over" 2 ["self"] (spOver cR cY cW) f2 fd2) (M_times_here : MetOk P w K mg base cW "times_here" 2 ["self"] (spTH cR cY cW) f3 fd3)
    (M_round_here : MetOk P w K mg base cW "round_here" 1 ["self"] (spRH cR cY cW) f4 fd4) (M_go_round : MetOk P w K mg base cW "go_round" 2 ["self", "times"] (spGR cR cY cW) f5 fd5) (M_is_refused : MetOk P w K mg base cW "is_refused" 2 ["self"] (spRef cR cY cW) f6 fd6)
    (M_spot : MetOk P w K mg base cW "spot" 1 ["self"] (spSpot cR cY cW) f7 fd7) (M_go_on : MetOk P w K mg base cW "go_on" 3 ["self"] (spGO cR cY cW) f8 fd8) {f9 fd9} (M_step : MetOk P w K mg base cW "step" 1 ["self"] (spStep cR cY cW) f9 fd9) :
    FnOk P w K mg base CX0 4 f fd ["ways", "place", "number"] (spCourse cR cY) := by
  refine F.ok sc_course (fun vs H Q E h => ?_) (fun cdv A outer s0 H vs Q E hr h => ?_)
  · obtain ⟨wa, G, M, p, c, rfl, _⟩ := h
    rfl
  · obtain ⟨wa, G, M, p, c, rfl, hY, o, hp, c0, k⟩ := h
    refine ⟨_, PSs.nox (pss_cons (ps_par3 (i := 3) (j := 4) (l := 5) (by rfl) sc_course.nd rfl rfl rfl (by decide) (by decide) (by decide) rfl rfl rfl (pa_cons (pe_make CWalk.mk_ CWalk.G (hr.mono (by decide)) rfl CWalk.m CWalk.b .nil pass0 (pa_cons (pv 0) (pa_cons (pv 1) (pa_cons (pv 2) pa_nil)))) (pa_cons pe_int (pa_cons pe_dnewT pa_nil))) (by rfl))
      (pss_cons (ps_while PassesOwn.never (pt_not (pt_val (pe_meth0 (pv 3) T.clWalk M_is_over.mt M_is_over.G (hr.mono (by decide)) M_is_over.b .nil pass0))) (pss_cons (ps_set (i := 6) sc_course.nd rfl (Or.inl rfl) (pe_meth0 (pv 3) T.clWalk M_times_here.mt M_times_here.G (hr.mono (by decide)) M_times_here.b .nil pass0))
      (pss_cons (ps_if (pt_cmp (pc_isN (pv 6)) rfl) (pss_one (ps_ret (pe_tup (pa_cons (pe_glob (v := .str "never") rfl T.never ⟨_, rfl⟩) (pa_cons (pv 4) (pa_cons (pe_fld (pe_meth0 (pv 3) T.clWalk M_round_here.mt M_round_here.G (hr.mono (by decide)) M_round_here.b .nil pass0) rfl) pa_nil)))))) pss_nil)
      (pss_one (ps_if (pt_cmpR op_gt (pv 6) pe_int (nomark _)) (pss_one (ps_aug (i := 4) sc_course.nd rfl (Or.inl rfl) (pe_meth (pv 3) T.clWalk M_go_round.mt M_go_round.G (hr.mono (by decide)) M_go_round.b .nil pass0 (pa_cons (pv 6) pa_nil)) ip_add)) (pss_cons (ps_if (pt_val (pe_meth0 (pv 3) T.clWalk M_is_refused.mt M_is_refused.G (hr.mono (by decide)) M_is_refused.b .nil pass0)) (pss_cons (ps_if (pt_cmp (pc_din (hu_of hr) (pe_meth0 (pv 3) T.clWalk M_spot.mt M_spot.G (hr.mono (by decide)) M_spot.b .nil pass0) (pv 5)) rfl) (pss_one (ps_ret (pe_tup (pa_cons (pe_glob (v := .str "never") rfl T.never ⟨_, rfl⟩) (pa_cons (pe_dget (hu_of hr) (pv 5) (pe_meth0 (pv 3) T.clWalk M_spot.mt M_spot.G (hr.mono (by decide)) M_spot.b .nil pass0) (fun _ _ => rfl)) (pa_cons (pe_op op_sub (pv 4) (pe_dget (hu_of hr) (pv 5) (pe_meth0 (pv 3) T.clWalk M_spot.mt M_spot.G (hr.mono (by decide)) M_spot.b .nil pass0) (fun _ _ => rfl))) pa_nil)))))) pss_nil)
      (pss_one (ps_dput (hu_of hr) (pv 5) (pe_meth0 (pv 3) T.clWalk M_spot.mt M_spot.G (hr.mono (by decide)) M_spot.b .nil pass0) (pv 4) rfl))) pss_nil)
      (pss_cons (ps_expr (pe_meth0 (pv 3) T.clWalk M_go_on.mt M_go_on.G (hr.mono (by decide)) M_go_on.b .nil pass0))
      (pss_one (ps_aug (i := 4) sc_course.nd rfl (Or.inl rfl) pe_int ip_add)))))))))
      (pss_one (ps_ret (pe_tup (pa_cons (pe_ix ix_tup (pe_meth0 (pv 3) T.clWalk M_step.mt M_step.G (hr.mono (by decide)) M_step.b .nil pass0) pe_int (fun _ _ => rfl)) (pa_cons (pv 4) (pa_cons pe_int pa_nil)))))))), ?_⟩
    have l3 : 3 ≤ sizeLine := by decide
    have l25 : 25 < sizeLine := by decide
    -- walk, count, lows = (Walk(..), 0, {})
    refine ⟨_, rfl, _, rfl, _, rfl, fun wk dx nx nd ndx => ?_⟩
    refine ⟨wk, dx, wa, p, c, rfl, upd_same, rfl, fun ld hld => ⟨_, _, _, rfl, ?_⟩⟩
    rw [upd_upd] at hld ⊢
    have S0 : Same H (upd (upd (upd H dx (.own wk)) wk (.ins cW dx (wf wa p c))) ld (.dT [])) := ((Same.new nd).trans (Same.new (by rw [upd_ne ndx.symm]; exact nx))).trans (Same.new hld)
    have hld0 : H ld = none := Same.free (((Same.new nd).trans (Same.new (by rw [upd_ne ndx.symm]; exact nx)))) hld
    have nwl : wk ≠ ld := fun z => by
      rw [← z, upd_same] at hld
      cases hld
    obtain ⟨m0, hm0⟩ := o.course (s := (p, c)) hp c0
    refine ⟨fun m σ H' => ∃ (s : S) (cnt : Nat) (lows : List (S × Nat)) (v6 : Option V), σ = [some (.ref wa), some (.int (p : Int)), some (.int c), some (.ref wk), some (.int (cnt : Int)), some (.ref ld), v6] ∧ Same H H' ∧ Wst cR cY cW H' wk wa G M s ∧ H' ld = some (.dT (enc lows)) ∧
      K53M.CInv G (p, c) s cnt lows ∧ K53M.CTerm G M (K53M.CPost G (p, c)) m s cnt lows,
      ⟨m0, (p, c), 0, [], none, rfl, S0, ⟨⟨dx, by rw [upd_ne nwl, upd_same]⟩, hY.mono S0, o, hp⟩, upd_same, ⟨hp, c0, rfl, fun j hj => absurd hj (Nat.not_lt_zero j), fun x c0 h => absurd h (by simp), by simp⟩, hm0⟩, ?_⟩
    rintro m σ H' ⟨s, cnt, lows, v6, rfl, hS, hW, hl, I, hC⟩
    cases m with
    | zero => exact hC.elim
    | succ m =>
      obtain ⟨hC1, hC2⟩ := hC
      obtain ⟨dx1, e1⟩ := hW.at_
      refine ⟨_, rfl, wk, dx1, _, rfl, e1, wf_no _ _ _, wk, wa, G, M, s, rfl, hW, _, rfl, ?_⟩
      cases hE : K53M.isEnd G s.1 with
      | true =>
        refine iteF ?_
        have hP := hC1 hE
        refine ⟨_, rfl, wk, dx1, _, rfl, e1, wf_no _ _ _, wk, wa, G, M, s, rfl, hW, fun b x ex hx => ?_⟩
        obtain ⟨wd, ew⟩ := K53M.isEnd_fin hE
        rw [ew] at ex
        cases ex
        have hx : H' b = some (.tup [.str "end", .str (wordS wd)]) := hx
        refine ⟨b, _, _, _, rfl, rfl, SqT.of hx, atI1, _, rfl, l3, fun t ht => ?_⟩
        refine k t _ (some (wd, cnt)) _ _ (hS.trans (Same.new ht)) ⟨hP.1, by rw [hP.2]; exact ew⟩ upd_same fun b N z => ?_
        cases z
        rfl
      | false =>
        refine iteT ⟨_, fun _ _ z => z, ?_⟩
        obtain ⟨hCj, hCs⟩ := hC2 hE
        -- times = walk.times_here()
        refine ⟨_, rfl, wk, dx1, _, rfl, e1, wf_no _ _ _, wk, wa, G, M, s, rfl, hW, fun v H1 hS1 hv => ?_⟩
        have hW1 := hW.mono hS1
        have e2 := hS1 _ _ e1
        have hl1 := hS1 _ _ hl
        refine ⟨_, rfl, _, rfl, itD (fun hn => ?_) fun hn => ?_⟩
        · -- for ever
          obtain ⟨n, r1, r2, r3⟩ : ∃ n, K53M.IsRound G M s n ∧ K53M.needN G s n ≤ s.2 ∧ K53M.fallN G s n ≤ 0 := by
            rcases hv with ⟨h1, _⟩ | ⟨n, h1, h2, h3, _⟩ | ⟨n, _, _, _, h1⟩
            · rw [h1] at hn
              cases hn
            · exact ⟨n, h1, h2, h3⟩
            · rw [h1] at hn
              cases hn
          have hP := (hCj n r1 r2).1 r3
          refine ⟨_, rfl, _, rfl, wk, dx1, _, rfl, e2, wf_no _ _ _, wk, wa, G, M, s, rfl, hW1, fun v2 H2 hS2 hv2 => ?_⟩
          rcases hv2 with ⟨_, h2⟩ | ⟨x, dxr, n', pl, rfl, h2, h3⟩
          · exact absurd r1 (h2 n)
          · refine ⟨x, cR, dxr, _, _, rfl, h3, T.clRound, T.nRs, rf_steps _ _ _ _, l3, fun t ht => ?_⟩
            exact k t _ none _ _ (((hS.trans hS1).trans hS2).trans (Same.new ht)) hP upd_same fun b N z => by cases z
        · rcases hv with ⟨rfl, hz⟩ | ⟨n, _, _, _, h1⟩ | ⟨n, r1, r2, r3, rfl⟩
          · -- one step on
            refine ⟨_, rfl, _, _, rfl, rfl, _, rfl, itD (fun z => absurd z (by decide)) fun _ => ?_⟩
            obtain ⟨hCr, hCn⟩ := hCs hz
            refine ⟨_, rfl, wk, dx1, _, rfl, e2, wf_no _ _ _, wk, wa, G, M, s, rfl, hW1, _, rfl, itB (fun hR => ?_) fun hR => ?_⟩
            · obtain ⟨hCa, hCb⟩ := hCr hR
              refine ⟨_, rfl, wk, dx1, _, rfl, e2, wf_no _ _ _, wk, wa, G, M, s, rfl, hW1, fun q hq => ?_⟩
              have S2 : Same H1 (upd H1 q (.tup [.int (s.1 : Int), .int s.2])) := Same.new hq
              refine ⟨_, rfl, ld, _, rfl, DGet.t (k := ky s) (S2 _ _ hl1) upd_same, _, rfl, ?_⟩
              have hW2 := hW1.mono S2
              have e3 := S2 _ _ e2
              have hl2 := S2 _ _ hl1
              cases hval : valV (enc lows) (ky s) with
              | some v0 =>
                obtain ⟨n0, hmem, rfl⟩ := enc_some hval
                have hP := hCa n0 hmem
                refine iteT ?_
                refine ⟨_, rfl, _, rfl, wk, dx1, _, rfl, e3, wf_no _ _ _, wk, wa, G, M, s, rfl, hW2, fun q2 hq2 => ?_⟩
                have S3 := Same.new (o := HO.tup [.int (s.1 : Int), .int s.2]) hq2
                have hg := DGet.t (k := ky s) (S3 _ _ hl2) (upd_same (a := q2))
                rw [hval] at hg
                refine ⟨ld, _, rfl, hg, _, rfl, _, rfl, _, rfl, wk, dx1, _, rfl, S3 _ _ e3, wf_no _ _ _, wk, wa, G, M, s, rfl, hW2.mono S3, fun q3 hq3 => ?_⟩
                have S4 := Same.new (o := HO.tup [.int (s.1 : Int), .int s.2]) hq3
                have hg := DGet.t (k := ky s) (S4 _ _ (S3 _ _ hl2)) (upd_same (a := q3))
                rw [hval] at hg
                refine ⟨ld, _, rfl, hg, _, _, rfl, rfl, l3, fun t ht => ?_⟩
                exact k t _ none _ _ (((((hS.trans hS1).trans S2).trans S3).trans S4).trans (Same.new ht)) hP upd_same fun b N z => by cases z
              | none =>
                have hno := enc_none hval
                have hC' := hCb hno
                have I' := I.snoc o hR hno
                refine iteF ?_
                have hlen := o.lows_le I
                -- lows[walk.spot()] = count
                refine ⟨_, rfl, _, rfl, _, rfl, wk, dx1, _, rfl, e3, wf_no _ _ _, wk, wa, G, M, s, rfl, hW2, fun q2 hq2 => ?_⟩
                have S3 := Same.new (o := HO.tup [.int (s.1 : Int), .int s.2]) hq2
                refine ⟨ld, _, rfl, DPut.t (k := ky s) (S3 _ _ hl2) upd_same (by rw [enc_len]; omega), ?_⟩
                rw [enc_snoc hval]
                generalize hH4 : upd (upd (upd H1 q (.tup [.int (s.1 : Int), .int s.2])) q2 (.tup [.int (s.1 : Int), .int s.2])) ld (.dT (enc (lows ++ [(s, cnt)]))) = H4
                have hl4 : H4 ld = some (.dT (enc (lows ++ [(s, cnt)]))) := by rw [← hH4, upd_same]
                have E4 : SameE [ld] H1 H4 := SameE.to fun b u n e => by
                  rw [← hH4, upd_ne n]
                  exact S3 _ _ (S2 _ _ e)
                have S4 : Same H H4 := fun b u e => E4.of (fun z => by rw [z, hld0] at e; cases e) (hS1 _ _ (hS _ _ e))
                have hW4 : Wst cR cY cW H4 wk wa G M s := ⟨⟨dx1, E4.of nwl e2⟩, hY.mono S4, o, hW.lt⟩
                -- walk.go_on(); count += 1
                refine ⟨_, rfl, wk, dx1, _, rfl, (E4.of nwl e2), wf_no _ _ _, wk, wa, G, M, s, rfl, hW4, hE, fun H5 E5 hW5 => ?_⟩
                have nlw : ld ≠ wk := nwl.symm
                have S5 : Same H H5 := fun b u e => E5.of (fun z => by rw [z, nx] at e; cases e) (S4 _ _ e)
                refine ⟨_, rfl, _, _, rfl, rfl, m, Nat.lt_succ_self m, K53M.step G s, cnt + 1, _, some (.int 0), ?_, S5, hW5, E5.of nlw hl4, I', hC'⟩
                rfl
            · have hC' := hCn hR
              have I' := I.step o hE
              -- walk.go_on(); count += 1
              refine ⟨_, rfl, wk, dx1, _, rfl, e2, wf_no _ _ _, wk, wa, G, M, s, rfl, hW1, hE, fun H5 E5 hW5 => ?_⟩
              have nlw : ld ≠ wk := nwl.symm
              have S5 : Same H H5 := fun b u e => E5.of (fun z => by rw [z, nx] at e; cases e) ((hS.trans hS1) _ _ e)
              refine ⟨_, rfl, _, _, rfl, rfl, m, Nat.lt_succ_self m, K53M.step G s, cnt + 1, _, some (.int 0), ?_, S5, hW5, E5.of nlw hl1, I', hC'⟩
              rfl
          · rw [h1] at hn
            exact absurd rfl hn
          · -- rounds
            have ht := K53M.tms_pos r3 r2
            have ht2 : (((K53M.tms G s n).toNat : Nat) : Int) = K53M.tms G s n := Int.toNat_of_nonneg (by omega)
            refine ⟨_, rfl, _, _, rfl, rfl, _, rfl, itD (fun _ => ?_) fun z => absurd (show (0 : Int) < K53M.tms G s n by omega) z⟩
            refine ⟨_, rfl, _, rfl, wk, dx1, _, rfl, e2, wf_no _ _ _, _, rfl, wk, wa, G, M, s, _, n, rfl, hW1, r1, fun H5 E5 hW5 => ?_⟩
            have S5 : Same H H5 := fun b u e => E5.of (fun z => by rw [z, nx] at e; cases e) (hS1 _ _ (hS _ _ e))
            have I' := I.jump o r1 (w := (K53M.tms G s n).toNat) (fun _ => r2) (fun _ => by omega)
            rw [ht2] at I'
            refine ⟨_, _, rfl, rfl, m, Nat.lt_succ_self m, _, cnt + (K53M.tms G s n).toNat * n, lows, some (.int (K53M.tms G s n)), ?_, S5, hW5, E5.of nwl.symm hl1, I', (hCj n r1 r2).2 r3⟩
            rw [Int.natCast_add, Int.natCast_mul, ht2]
            rfl
end
end K53
end

section
set_option Elab.async false
set_option linter.all false
set_option maxRecDepth 100000
set_option maxHeartbeats 4000000
/-! K53: answer, length. -/
namespace K53
open PySem PySem.Spec PyProof.Rows L2
open K53M (Stp Pg S)
section
variable {P : Program} {w : World} {K : PySem.W.Frag} {mg : Str → Option Value} {base : Heap} {f : Addr} {fd : FuncData} {cR cY cW : Addr} {tN : Tok}
/-- a new instance made by an __init__ that leaves all else -/
theorem Same.make {H H' : Hp} {x dx C : Addr} (nx : H x = none) (nd : H dx = none) (ndx : dx ≠ x) (e : SameE [x] (upd (upd H dx (.own x)) x (.ins C dx [])) H') : Same H H' := fun b u h => by
  have n1 : b ≠ x := fun z => by rw [z, nx] at h; cases h
  have n2 : b ≠ dx := fun z => by rw [z, nd] at h; cases h
  exact e.of n1 (by rw [upd_ne n1, upd_ne n2]; exact h)
theorem Same.made0 {H : Hp} {x dx C : Addr} (nx : H x = none) (nd : H dx = none) (ndx : dx ≠ x) : Same H (upd (upd H dx (.own x)) x (.ins C dx [])) := (Same.new nd).trans (Same.new (by rw [upd_ne ndx.symm]; exact nx))
def spAnswer : Sp := fun vs H Q _ => ∃ (a : Addr) (G : Pg) (c : Int), vs = [.ref a, .int c] ∧ PgAt H a G ∧ K53M.Ok G (K53M.roundM G) ∧ 0 ≤ c ∧ ∀ H' r, Same H H' → K53M.Ans G (0, c) r → Q (.str (wordO r)) H'
theorem ok_answer (T : Txt K mg cR cY cW tN) (F : FnP K "answer" "answer" s_answer f fd) {f1 fd1 f2 fd2} (CWays : ConOk P w K mg base cY "Ways" 4 ["self", "program"] (spYInit cR cY) f1 fd1) (C_course : CalOk P w K mg base "course" 4 ["ways", "place", "number"] (spCourse cR cY) f2 fd2) :
    FnOk P w K mg base CX0 6 f fd ["program", "number"] spAnswer := by
  refine F.ok sc_answer (fun vs H Q E h => ?_) (fun cdv A outer s0 H vs Q E hr h => ?_)
  · obtain ⟨a, G, c, rfl, _⟩ := h
    rfl
  · obtain ⟨a, G, c, rfl, hG, o, c0, k⟩ := h
    refine ⟨_, PSs.nox (pss_one (ps_ret (pe_ix ix_tup (pe_call C_course.G (hr.mono (by decide)) rfl C_course.m C_course.kp C_course.b .nil pass0 (pa_cons (pe_make CWays.mk_ CWays.G (hr.mono (by decide)) rfl CWays.m CWays.b .nil pass0 (pa_cons (pv 0) pa_nil)) (pa_cons pe_int (pa_cons (pv 1) pa_nil)))) pe_int (fun _ _ => rfl)))), ?_⟩
    refine ⟨_, rfl, fun x dx nx nd ndx => ⟨x, dx, a, G, rfl, upd_same, hG.mono (Same.tups (Same.made0 nx nd ndx)), o, fun H1 E1 hY => ⟨rfl, ?_⟩⟩⟩
    have S1 := Same.make nx nd ndx E1
    refine ⟨_, rfl, x, G, _, 0, c, rfl, hY, o, o.l1, c0, fun t H2 r cn mo S2 hA ht _ => ?_⟩
    exact ⟨t, _, _, _, rfl, rfl, SqT.of ht, atI0, k H2 r (S1.trans S2) hA⟩
def lenV : Option (Bool × Nat) → V
  | none => .non
  | some (_, N) => .int (N : Int)
theorem ne_yes_never : ¬ ("yes" : Str) = "never" := by decide +kernel
theorem ne_no_never : ¬ ("no" : Str) = "never" := by decide +kernel
theorem wordS_never (b : Bool) : ¬ wordS b = "never" := by
  cases b with
  | true => exact ne_yes_never
  | false => exact ne_no_never
def spLength : Sp := fun vs H Q _ => ∃ (a : Addr) (G : Pg) (c : Int), vs = [.ref a, .int c] ∧ PgAt H a G ∧ K53M.Ok G (K53M.roundM G) ∧ 0 ≤ c ∧ ∀ H' r, Same H H' → K53M.Ans G (0, c) r → Q (lenV r) H'
theorem ok_length (T : Txt K mg cR cY cW tN) (F : FnP K "length" "length" s_length f fd) {f1 fd1 f2 fd2} (CWays : ConOk P w K mg base cY "Ways" 4 ["self", "program"] (spYInit cR cY) f1 fd1) (C_course : CalOk P w K mg base "course" 4 ["ways", "place", "number"] (spCourse cR cY) f2 fd2) :
    FnOk P w K mg base CX0 6 f fd ["program", "number"] spLength := by
  refine F.ok sc_length (fun vs H Q E h => ?_) (fun cdv A outer s0 H vs Q E hr h => ?_)
  · obtain ⟨a, G, c, rfl, _⟩ := h
    rfl
  · obtain ⟨a, G, c, rfl, hG, o, c0, k⟩ := h
    refine ⟨_, PSs.nox (pss_cons (ps_asg (pe_call C_course.G (hr.mono (by decide)) rfl C_course.m C_course.kp C_course.b .nil pass0 (pa_cons (pe_make CWays.mk_ CWays.G (hr.mono (by decide)) rfl CWays.m CWays.b .nil pass0 (pa_cons (pv 0) pa_nil)) (pa_cons pe_int (pa_cons (pv 1) pa_nil)))) (pg_tup rfl (pgs_cons (pg_name (i := 2) sc_length.nd rfl (Or.inl rfl)) (pgs_cons (pg_name (i := 3) sc_length.nd rfl (Or.inl rfl)) (pgs_cons (pg_name (i := 4) sc_length.nd rfl (Or.inl rfl)) pgs_nil)))))
      (pss_one (ps_ret (pe_ifExp (pt_cmpR op_eq (pv 2) (pe_glob (v := .str "never") rfl T.never ⟨_, rfl⟩) (nomark _)) pe_non (pv 3))))), ?_⟩
    refine ⟨_, rfl, fun x dx nx nd ndx => ⟨x, dx, a, G, rfl, upd_same, hG.mono (Same.tups (Same.made0 nx nd ndx)), o, fun H1 E1 hY => ⟨rfl, ?_⟩⟩⟩
    have S1 := Same.make nx nd ndx E1
    refine ⟨_, rfl, x, G, _, 0, c, rfl, hY, o, o.l1, c0, fun t H2 r cn mo S2 hA ht hcn => ?_⟩
    refine ⟨t, _, rfl, SqT.of ht, rfl, _, _, rfl, _, _, rfl, _, _, rfl, rfl, ?_⟩
    refine ⟨_, rfl, rfl, _, rfl, itD (fun he => ?_) fun he => ?_⟩
    · cases r with
      | none => exact k H2 none (S1.trans S2) hA
      | some r => exact absurd (vstr.mp he) (wordS_never r.1)
    · cases r with
      | none => exact absurd rfl he
      | some r =>
        have := hcn r.1 r.2 rfl
        subst this
        exact ⟨_, rfl, k H2 (some r) (S1.trans S2) hA⟩
end
end K53
end

section
set_option Elab.async false
set_option linter.all false
set_option maxRecDepth 100000
set_option maxHeartbeats 4000000
/-! K53: go_far, walk_by, stands. -/
namespace K53
open PySem PySem.Spec PyProof.Rows L2
open K53M (Stp Pg S)
section
variable {P : Program} {w : World} {K : PySem.W.Frag} {mg : Str → Option Value} {base : Heap} {f : Addr} {fd : FuncData} {cR cY cW : Addr} {tN : Tok}
def SeenOk (G : Pg) (seen : List (S × Nat)) : Prop := (seen.map (·.1)).Nodup ∧ ∀ x l0, (x, l0) ∈ seen → x.1 < G.length ∧ 0 ≤ x.2 ∧ x.2 < 4
theorem SeenOk.len {G : Pg} {M : Nat} (o : K53M.Ok G M) {seen : List (S × Nat)} (h : SeenOk G seen) : seen.length ≤ 24 := by
  have := K53M.spots_le G.length o.l6 (seen.map (·.1)) h.1 fun x hx => by
    obtain ⟨⟨y, c0⟩, hy, rfl⟩ := List.mem_map.mp hx
    exact h.2 y c0 hy
  rwa [List.length_map] at this
theorem SeenOk.snoc {G : Pg} {M : Nat} (o : K53M.Ok G M) {seen : List (S × Nat)} (h : SeenOk G seen) {s : S} {l : Nat} (hr : K53M.isRef G s = true) (hp : s.1 < G.length) (h0 : 0 ≤ s.2) (hn : ∀ c0, ¬ (s, c0) ∈ seen) : SeenOk G (seen ++ [(s, l)]) := by
  refine ⟨?_, fun x l0 hx => ?_⟩
  · rw [List.map_append, List.nodup_append]
    refine ⟨h.1, by simp, fun a ha b hb => ?_⟩
    have e : b = s := by simpa using hb
    subst e
    rintro rfl
    obtain ⟨⟨y, c0⟩, hy, hye⟩ := List.mem_map.mp ha
    have hye : y = a := hye
    subst hye
    exact hn c0 hy
  · rcases List.mem_append.mp hx with q | q
    · exact h.2 x l0 q
    · obtain ⟨rfl, rfl⟩ := Prod.mk.inj (List.mem_singleton.mp q)
      exact ⟨hp, h0, o.ref_lt hr⟩
def spGF (cR cY cW : Addr) : Sp := fun vs H Q _ => ∃ (wk wa : Addr) (G : Pg) (M : Nat) (s : S) (n : Nat), vs = [.ref wk, .int (n : Int)] ∧ Wst cR cY cW H wk wa G M s ∧ 0 ≤ s.2 ∧
  ∀ (H' : Hp) (b : Bool), SameE [wk] H H' → Wst cR cY cW H' wk wa G M (K53M.runN G n s) → Q (.bl b) H'
/-- what is gone through at once, out of the round and its times -/
theorem whole_w {G : Pg} {M : Nat} {s : S} {left n : Nat} {tv : V} {z : Int} (r : K53M.IsRound G M s n) (h : TimesV G M s tv) (hz : (tv = .non → z = (left : Int) / (n : Int)) ∧ (∀ t, tv = .int t → z = min t ((left : Int) / (n : Int)))) (hp : 0 < z) :
    ∃ wn : Nat, z = (wn : Int) ∧ 1 ≤ wn ∧ K53M.needN G s n ≤ s.2 ∧ (0 < K53M.fallN G s n → (wn : Int) ≤ K53M.tms G s n) ∧ wn * n ≤ left := by
  have hd : ∀ wn : Nat, (wn : Int) ≤ (left : Int) / (n : Int) → wn * n ≤ left := fun wn hw => by
    rw [← Int.natCast_ediv] at hw
    have h1 : wn ≤ left / n := Int.ofNat_le.mp hw
    exact Nat.le_trans (Nat.mul_le_mul_right n h1) (Nat.div_mul_le_self _ _)
  refine ⟨z.toNat, by omega, by omega, ?_⟩
  have hzn : ((z.toNat : Nat) : Int) = z := by omega
  rcases h with ⟨rfl, h1⟩ | ⟨m, h1, h2, h3, rfl⟩ | ⟨m, h1, h2, h3, rfl⟩
  · have := hz.2 0 rfl
    have h5 : z ≤ 0 := by rw [this]; exact Int.min_le_left _ _
    omega
  · obtain rfl := h1.uniq r
    have h5 := hz.1 rfl
    exact ⟨h2, fun q => by omega, hd _ (by rw [hzn, h5]; exact Int.le_refl _)⟩
  · obtain rfl := h1.uniq r
    have h5 := hz.2 _ rfl
    exact ⟨h2, fun _ => by rw [hzn, h5]; exact Int.min_le_left _ _, hd _ (by rw [hzn, h5]; exact Int.min_le_right _ _)⟩
theorem ok_go_far (T : Txt K mg cR cY cW tN) (F : FnP K "go_far" "go_far" s_go_far f fd) {f2 fd2 f3 fd3 f4 fd4 f5 fd5 f6 fd6 f7 fd7 f8 fd8}
    (M_is_over : MetOk P w K mg base cW "is_over" 2 ["self"] (spOver cR cY cW) f2 fd2) (M_times_here : MetOk P w K mg base cW "times_here" 2 ["self"] (spTH cR cY cW) f3 fd3)
    (M_round_here : MetOk P w K mg base cW "round_here" 1 ["self"] (spRH cR cY cW) f4 fd4) (M_go_round : MetOk P w K mg base cW "go_round" 2 ["self", "times"] (spGR cR cY cW) f5 fd5) (M_is_refused : MetOk P w K mg base cW "is_refused" 2 ["self"] (spRef cR cY cW) f6 fd6)
    (M_spot : MetOk P w K mg base cW "spot" 1 ["self"] (spSpot cR cY cW) f7 fd7) (M_go_on : MetOk P w K mg base cW "go_on" 3 ["self"] (spGO cR cY cW) f8 fd8) :
    FnOk P w K mg base CX0 4 f fd ["walk", "count"] (spGF cR cY cW) := by
  refine F.ok sc_go_far (fun vs H Q E h => ?_) (fun cdv A outer s0 H vs Q E hr h => ?_)
  · obtain ⟨wk, wa, G, M, s, n, rfl, _⟩ := h
    rfl
  · obtain ⟨wk, wa, G, M, sI, n, rfl, hW0, c0, k⟩ := h
    refine ⟨_, PSs.nox (pss_cons (ps_asg (pe_tup (pa_cons (pv 1) (pa_cons pe_dnewT (pa_cons pe_bl (pa_cons pe_bl pa_nil))))) (pg_tup rfl (pgs_cons (pg_name (i := 2) sc_go_far.nd rfl (Or.inl rfl)) (pgs_cons (pg_name (i := 3) sc_go_far.nd rfl (Or.inl rfl)) (pgs_cons (pg_name (i := 4) sc_go_far.nd rfl (Or.inl rfl)) (pgs_cons (pg_name (i := 5) sc_go_far.nd rfl (Or.inl rfl)) pgs_nil))))))
      (pss_cons (ps_while PassesOwn.never (PW.pt (pw_and (pt_cmpR op_gt (pv 2) pe_int (nomark _)) (pw_and1 (pt_not (pt_val (pe_meth0 (pv 0) T.clWalk M_is_over.mt M_is_over.G (hr.mono (by decide)) M_is_over.b .nil pass0)))))) (pss_cons (ps_par (i := 6) (j := 7) (by rfl) sc_go_far.nd rfl rfl (by decide) rfl rfl (pa_cons (pe_meth0 (pv 0) T.clWalk M_round_here.mt M_round_here.G (hr.mono (by decide)) M_round_here.b .nil pass0) (pa_cons (pe_meth0 (pv 0) T.clWalk M_times_here.mt M_times_here.G (hr.mono (by decide)) M_times_here.b .nil pass0) pa_nil)) (by rfl))
      (pss_cons (ps_set (i := 8) sc_go_far.nd rfl (Or.inl rfl) (pe_ifExp (pt_cmp (pc_isN (pv 6)) rfl) pe_int (pe_op op_fdiv (pv 2) (pe_fld (pv 6) rfl))))
      (pss_cons (ps_set (i := 8) sc_go_far.nd rfl (Or.inl rfl) (pe_ifExp (pt_cmp (pc_isN (pv 7)) rfl) (pv 8) (pe_callB (call_min2 rfl) (by rfl) T.min_ (by decide +kernel) (pa_cons (pv 7) (pa_cons (pv 8) pa_nil)))))
      (pss_one (ps_if (pt_cmpR op_gt (pv 8) pe_int (nomark _)) (pss_one (ps_aug (i := 2) sc_go_far.nd rfl (Or.inl rfl) (pe_meth (pv 0) T.clWalk M_go_round.mt M_go_round.G (hr.mono (by decide)) M_go_round.b .nil pass0 (pa_cons (pv 8) pa_nil)) ip_sub)) (pss_cons (ps_set (i := 4) sc_go_far.nd rfl (Or.inl rfl) (pe_or (pv 4) (pe_one (pe_meth0 (pv 0) T.clWalk M_is_refused.mt M_is_refused.G (hr.mono (by decide)) M_is_refused.b .nil pass0))))
      (pss_cons (ps_if (PW.pt (pw_and (pt_val (pe_meth0 (pv 0) T.clWalk M_is_refused.mt M_is_refused.G (hr.mono (by decide)) M_is_refused.b .nil pass0)) (pw_and1 (pt_not (pt_val (pv 5)))))) (pss_one (ps_if (pt_cmp (pc_din (hu_of hr) (pe_meth0 (pv 0) T.clWalk M_spot.mt M_spot.G (hr.mono (by decide)) M_spot.b .nil pass0) (pv 3)) rfl) (pss_one (ps_par (i := 2) (j := 5) (by rfl) sc_go_far.nd rfl rfl (by decide) rfl rfl (pa_cons (pe_op op_mod (pv 2) (pe_op op_sub (pe_dget (hu_of hr) (pv 3) (pe_meth0 (pv 0) T.clWalk M_spot.mt M_spot.G (hr.mono (by decide)) M_spot.b .nil pass0) (fun _ _ => rfl)) (pv 2))) (pa_cons pe_bl pa_nil)) (by rfl))) (pss_one (ps_dput (hu_of hr) (pv 3) (pe_meth0 (pv 0) T.clWalk M_spot.mt M_spot.G (hr.mono (by decide)) M_spot.b .nil pass0) (pv 2) rfl)))) pss_nil)
      (pss_one (ps_if (pt_cmpR op_gt (pv 2) pe_int (nomark _)) (pss_cons (ps_expr (pe_meth0 (pv 0) T.clWalk M_go_on.mt M_go_on.G (hr.mono (by decide)) M_go_on.b .nil pass0))
      (pss_one (ps_aug (i := 2) sc_go_far.nd rfl (Or.inl rfl) pe_int ip_sub))) pss_nil))))))))))
      (pss_one (ps_ret (pv 4))))), ?_⟩
    have l25 : 25 < sizeLine := by decide
    have o := hW0.ok
    -- left, seen, is_refused, is_cut = (count, {}, False, False)
    refine ⟨_, rfl, fun sd hsd => ⟨(by show 4 ≤ sizeLine; decide), fun t ht => ⟨t, _, rfl, SqT.of upd_same, rfl, _, _, rfl, _, _, rfl, _, _, rfl, _, _, rfl, rfl, ?_⟩⟩⟩
    have S0 : Same H (upd (upd H sd (.dT [])) t (.tup [.int (n : Int), .ref sd, .bl false, .bl false])) := (Same.new hsd).trans (Same.new ht)
    have nst : sd ≠ t := fun z => by
      rw [← z, upd_same] at ht
      cases ht
    obtain ⟨dx0, e0⟩ := hW0.at_
    have nsw : sd ≠ wk := fun z => by
      rw [z, e0] at hsd
      cases hsd
    have hsd0 := hsd
    refine ⟨fun m σ H' => ∃ (s' : S) (left : Nat) (seen : List (S × Nat)) (rf0 cut : Bool) (v6 v7 v8 : Option V), σ = [some (.ref wk), some (.int (n : Int)), some (.int (left : Int)), some (.ref sd), some (.bl rf0), some (.bl cut), v6, v7, v8] ∧ left = m ∧ SameE [wk] H H' ∧ Wst cR cY cW H' wk wa G M s' ∧ H' sd = some (.dT (enc seen)) ∧
      K53M.GInv G (K53M.runN G n sI) s' left seen cut ∧ SeenOk G seen,
      ⟨n, sI, n, [], false, false, none, none, none, rfl, rfl, Same.e S0, hW0.mono S0, by rw [upd_ne nst, upd_same]; rfl, ⟨hW0.lt, c0, rfl, fun _ x l0 h => absurd h (by simp)⟩, ⟨by simp, fun x l0 h => absurd h (by simp)⟩⟩, ?_⟩
    rintro m σ H' ⟨s, left, seen, rf0, cut, v6, v7, v8, rfl, rfl, hS, hW, hsdv, I, hSO⟩
    obtain ⟨dx1, e1⟩ := hW.at_
    refine ⟨_, rfl, _, _, rfl, rfl, _, rfl, ?_⟩
    by_cases hlp : 0 < left
    · rw [show decide ((0 : Int) < (left : Int)) = true from decide_eq_true (Int.ofNat_lt.mpr hlp)]
      refine iteT ⟨_, rfl, wk, dx1, _, rfl, e1, wf_no _ _ _, wk, wa, G, M, s, rfl, hW, _, rfl, ?_⟩
      cases hE : K53M.isEnd G s.1 with
      | true =>
        have hd := I.done (.inr hE)
        rw [hd] at hW
        exact iteF ⟨_, rfl, k _ _ hS hW⟩
      | false =>
        refine iteT ⟨_, fun _ _ z => z, ?_⟩
        -- told, times = ..
        refine ⟨_, rfl, wk, dx1, _, rfl, e1, wf_no _ _ _, wk, wa, G, M, s, rfl, hW, fun v H1 hS1 hv => ⟨_, rfl, wk, dx1, _, rfl, hS1 _ _ e1, wf_no _ _ _, wk, wa, G, M, s, rfl, hW.mono hS1, fun tv H2 hS2 htv => ⟨_, _, rfl, ?_⟩⟩⟩
        have hW2 := (hW.mono hS1).mono hS2
        have e2 := hS2 _ _ (hS1 _ _ e1)
        have hsd2 := hS2 _ _ (hS1 _ _ hsdv)
        have S2 : SameE [wk] H H2 := hS.trans (Same.e (hS1.trans hS2))
        rcases hv with ⟨rfl, hno⟩ | ⟨x, dxr, nr, pl, rfl, hr2, hx⟩
        · refine ⟨_, rfl, _, rfl, itD (fun _ => ?_) fun z => absurd rfl z⟩
          rcases htv with ⟨rfl, hz⟩ | ⟨m, h1, _⟩ | ⟨m, h1, _⟩
          · refine ⟨_, rfl, _, rfl, itD (fun z => by cases z) fun _ => ⟨_, rfl, _, rfl, _, _, rfl, ?_⟩⟩
            refine ⟨_, rfl, _, _, rfl, rfl, _, rfl, itD (fun z => absurd z (by decide)) fun _ => ?_⟩
            -- is_refused = is_refused or walk.is_refused()
            refine ⟨_, rfl, _, rfl, ?_⟩
            cases rf0 with
            | true =>
              refine iteT ?_
              -- if walk.is_refused() and not is_cut
              refine ⟨_, rfl, wk, dx1, _, rfl, e2, wf_no _ _ _, wk, wa, G, M, s, rfl, hW2, _, rfl, ?_⟩
              cases hR : K53M.isRef G s with
              | false =>
                refine iteF ?_
                -- if left > 0: walk.go_on(); left -= 1
                have ce : ((left : Int) : Int) = ((left : Nat) : Int) := rfl
                refine ⟨_, rfl, _, _, rfl, rfl, _, rfl, itD (fun hpl => ?_) fun hpl => ?_⟩
                · have hpl0 : (0 : Int) < (left : Int) := hpl
                  have hpl : 0 < left := Int.ofNat_lt.mp (ce ▸ hpl0)
                  refine ⟨_, rfl, wk, dx1, _, rfl, e2, wf_no _ _ _, wk, wa, G, M, s, rfl, hW2, hE, fun H9 E9 hW9 => ?_⟩
                  have ce1 : ((left - 1 : Nat) : Int) = (left : Int) - 1 := by rw [ce]; omega
                  refine ⟨_, rfl, _, _, rfl, rfl, left - 1, (by omega), K53M.step G s, left - 1, seen, true, cut, (some .non), (some (.int 0)), (some (.int 0)), ?_, rfl, S2.trans E9, hW9, E9.of nsw hsd2, (I.stepG o hlp), hSO⟩
                  rw [ce1]
                  rfl
                · have hpl : ¬ (0 : Int) < (left : Int) := hpl
                  exact absurd (Int.ofNat_lt.mpr hlp) hpl
              | true =>
                refine iteT ⟨_, rfl, _, rfl, ?_⟩
                cases cut with
                | true =>
                  refine iteF ?_
                  -- if left > 0: walk.go_on(); left -= 1
                  have ce : ((left : Int) : Int) = ((left : Nat) : Int) := rfl
                  refine ⟨_, rfl, _, _, rfl, rfl, _, rfl, itD (fun hpl => ?_) fun hpl => ?_⟩
                  · have hpl0 : (0 : Int) < (left : Int) := hpl
                    have hpl : 0 < left := Int.ofNat_lt.mp (ce ▸ hpl0)
                    refine ⟨_, rfl, wk, dx1, _, rfl, e2, wf_no _ _ _, wk, wa, G, M, s, rfl, hW2, hE, fun H9 E9 hW9 => ?_⟩
                    have ce1 : ((left - 1 : Nat) : Int) = (left : Int) - 1 := by rw [ce]; omega
                    refine ⟨_, rfl, _, _, rfl, rfl, left - 1, (by omega), K53M.step G s, left - 1, seen, true, true, (some .non), (some (.int 0)), (some (.int 0)), ?_, rfl, S2.trans E9, hW9, E9.of nsw hsd2, (I.stepG o hlp), hSO⟩
                    rw [ce1]
                    rfl
                  · have hpl : ¬ (0 : Int) < (left : Int) := hpl
                    exact absurd (Int.ofNat_lt.mpr hlp) hpl
                | false =>
                  refine iteT ?_
                  refine ⟨_, rfl, wk, dx1, _, rfl, e2, wf_no _ _ _, wk, wa, G, M, s, rfl, hW2, fun q hq => ?_⟩
                  have S5 := Same.new (o := HO.tup [.int (s.1 : Int), .int s.2]) hq
                  refine ⟨_, rfl, sd, _, rfl, DGet.t (k := ky s) (S5 _ _ hsd2) upd_same, _, rfl, ?_⟩
                  have hW5 := hW2.mono S5
                  have e5 := S5 _ _ e2
                  have hsd5 := S5 _ _ hsd2
                  cases hval : valV (enc seen) (ky s) with
                  | some v0 =>
                    obtain ⟨l0, hmem, rfl⟩ := enc_some hval
                    obtain ⟨hl0, I'⟩ := I.cut o hmem
                    refine iteT ?_
                    -- left, is_cut = left % (seen[walk.spot()] - left), True
                    refine ⟨_, rfl, _, rfl, _, rfl, wk, dx1, _, rfl, e5, wf_no _ _ _, wk, wa, G, M, s, rfl, hW5, fun q2 hq2 => ?_⟩
                    have S6 := Same.new (o := HO.tup [.int (s.1 : Int), .int s.2]) hq2
                    have hg := DGet.t (k := ky s) (S6 _ _ hsd5) (upd_same (a := q2))
                    rw [hval] at hg
                    refine ⟨sd, _, rfl, hg, _, rfl, _, _, rfl, rfl, _, _, rfl, rfl, by omega, _, _, rfl, ?_⟩
                    have hmod : (left : Int) % ((l0 : Int) - (left : Int)) = ((left % (l0 - left) : Nat) : Int) := by
                      rw [Int.natCast_emod, Int.natCast_sub (Nat.le_of_lt hl0)]
                    have hml : left % (l0 - left) ≤ left := Nat.mod_le _ _
                    generalize left % (l0 - left) = L2 at hml I' hmod
                    -- if left > 0: walk.go_on(); left -= 1
                    have ce : (((left : Int) % ((l0 : Int) - (left : Int))) : Int) = ((L2 : Nat) : Int) := hmod
                    refine ⟨_, rfl, _, _, rfl, rfl, _, rfl, itD (fun hpl => ?_) fun hpl => ?_⟩
                    · have hpl0 : (0 : Int) < ((left : Int) % ((l0 : Int) - (left : Int))) := hpl
                      have hpl : 0 < L2 := Int.ofNat_lt.mp (ce ▸ hpl0)
                      refine ⟨_, rfl, wk, dx1, _, rfl, (S6 _ _ e5), wf_no _ _ _, wk, wa, G, M, s, rfl, (hW5.mono S6), hE, fun H9 E9 hW9 => ?_⟩
                      have ce1 : ((L2 - 1 : Nat) : Int) = ((left : Int) % ((l0 : Int) - (left : Int))) - 1 := by rw [ce]; omega
                      refine ⟨_, rfl, _, _, rfl, rfl, L2 - 1, (by omega), K53M.step G s, L2 - 1, seen, true, true, (some .non), (some (.int 0)), (some (.int 0)), ?_, rfl, (S2.trans (Same.e (S5.trans S6))).trans E9, hW9, E9.of nsw (S6 _ _ hsd5), (I'.stepG o hpl), hSO⟩
                      rw [ce1]
                      rfl
                    · have hpl : ¬ (0 : Int) < ((left : Int) % ((l0 : Int) - (left : Int))) := hpl
                      exact ⟨0, by omega, s, 0, seen, true, true, (some .non), (some (.int 0)), (some (.int 0)), (congrArg (fun z : Int => ([some (V.ref wk), some (V.int (n : Int)), some (V.int z), some (V.ref sd), some (V.bl true), some (V.bl true), (some .non), (some (.int 0)), (some (.int 0))] : List (Option V))) (show ((left : Int) % ((l0 : Int) - (left : Int))) = ((0 : Nat) : Int) by omega)), rfl, S2.trans (Same.e (S5.trans S6)), hW5.mono S6, S6 _ _ hsd5, (by rw [show L2 = 0 by omega] at I'; exact I'), hSO⟩
                  | none =>
                    have hno := enc_none hval
                    refine iteF ?_
                    -- seen[walk.spot()] = left
                    refine ⟨_, rfl, _, rfl, _, rfl, wk, dx1, _, rfl, e5, wf_no _ _ _, wk, wa, G, M, s, rfl, hW5, fun q2 hq2 => ?_⟩
                    have S6 := Same.new (o := HO.tup [.int (s.1 : Int), .int s.2]) hq2
                    refine ⟨sd, _, rfl, DPut.t (k := ky s) (S6 _ _ hsd5) upd_same (by rw [enc_len]; have := hSO.len o; omega), ?_⟩
                    rw [enc_snoc hval]
                    generalize hH7 : upd (upd (upd H2 q (.tup [.int (s.1 : Int), .int s.2])) q2 (.tup [.int (s.1 : Int), .int s.2])) sd (.dT (enc (seen ++ [(s, left)]))) = H7
                    have hsd7 : H7 sd = some (.dT (enc (seen ++ [(s, left)]))) := by rw [← hH7, upd_same]
                    have E7 : SameE [sd] H2 H7 := SameE.to fun b u n e => by
                      rw [← hH7, upd_ne n]
                      exact S6 _ _ (S5 _ _ e)
                    have S7 : SameE [wk] H H7 := SameE.to fun b u n e => E7.of (fun z => by rw [z, hsd0] at e; cases e) (S2.of n e)
                    have hW7 : Wst cR cY cW H7 wk wa G M s := hW0.to S7 ⟨dx1, E7.of nsw.symm e2⟩ hW2.lt
                    -- if left > 0: walk.go_on(); left -= 1
                    have ce : ((left : Int) : Int) = ((left : Nat) : Int) := rfl
                    refine ⟨_, rfl, _, _, rfl, rfl, _, rfl, itD (fun hpl => ?_) fun hpl => ?_⟩
                    · have hpl0 : (0 : Int) < (left : Int) := hpl
                      have hpl : 0 < left := Int.ofNat_lt.mp (ce ▸ hpl0)
                      refine ⟨_, rfl, wk, dx1, _, rfl, (E7.of nsw.symm e2), wf_no _ _ _, wk, wa, G, M, s, rfl, hW7, hE, fun H9 E9 hW9 => ?_⟩
                      have ce1 : ((left - 1 : Nat) : Int) = (left : Int) - 1 := by rw [ce]; omega
                      refine ⟨_, rfl, _, _, rfl, rfl, left - 1, (by omega), K53M.step G s, left - 1, (seen ++ [(s, left)]), true, false, (some .non), (some (.int 0)), (some (.int 0)), ?_, rfl, S7.trans E9, hW9, E9.of nsw hsd7, (I.snoc o hlp), (hSO.snoc o hR hW.lt I.nn hno)⟩
                      rw [ce1]
                      rfl
                    · have hpl : ¬ (0 : Int) < (left : Int) := hpl
                      exact absurd (Int.ofNat_lt.mpr hlp) hpl
            | false =>
              refine iteF ?_
              refine ⟨_, rfl, wk, dx1, _, rfl, e2, wf_no _ _ _, wk, wa, G, M, s, rfl, hW2, ?_⟩
              -- if walk.is_refused() and not is_cut
              refine ⟨_, rfl, wk, dx1, _, rfl, e2, wf_no _ _ _, wk, wa, G, M, s, rfl, hW2, _, rfl, ?_⟩
              cases hR : K53M.isRef G s with
              | false =>
                refine iteF ?_
                -- if left > 0: walk.go_on(); left -= 1
                have ce : ((left : Int) : Int) = ((left : Nat) : Int) := rfl
                refine ⟨_, rfl, _, _, rfl, rfl, _, rfl, itD (fun hpl => ?_) fun hpl => ?_⟩
                · have hpl0 : (0 : Int) < (left : Int) := hpl
                  have hpl : 0 < left := Int.ofNat_lt.mp (ce ▸ hpl0)
                  refine ⟨_, rfl, wk, dx1, _, rfl, e2, wf_no _ _ _, wk, wa, G, M, s, rfl, hW2, hE, fun H9 E9 hW9 => ?_⟩
                  have ce1 : ((left - 1 : Nat) : Int) = (left : Int) - 1 := by rw [ce]; omega
                  refine ⟨_, rfl, _, _, rfl, rfl, left - 1, (by omega), K53M.step G s, left - 1, seen, false, cut, (some .non), (some (.int 0)), (some (.int 0)), ?_, rfl, S2.trans E9, hW9, E9.of nsw hsd2, (I.stepG o hlp), hSO⟩
                  rw [ce1]
                  rfl
                · have hpl : ¬ (0 : Int) < (left : Int) := hpl
                  exact absurd (Int.ofNat_lt.mpr hlp) hpl
              | true =>
                refine iteT ⟨_, rfl, _, rfl, ?_⟩
                cases cut with
                | true =>
                  refine iteF ?_
                  -- if left > 0: walk.go_on(); left -= 1
                  have ce : ((left : Int) : Int) = ((left : Nat) : Int) := rfl
                  refine ⟨_, rfl, _, _, rfl, rfl, _, rfl, itD (fun hpl => ?_) fun hpl => ?_⟩
                  · have hpl0 : (0 : Int) < (left : Int) := hpl
                    have hpl : 0 < left := Int.ofNat_lt.mp (ce ▸ hpl0)
                    refine ⟨_, rfl, wk, dx1, _, rfl, e2, wf_no _ _ _, wk, wa, G, M, s, rfl, hW2, hE, fun H9 E9 hW9 => ?_⟩
                    have ce1 : ((left - 1 : Nat) : Int) = (left : Int) - 1 := by rw [ce]; omega
                    refine ⟨_, rfl, _, _, rfl, rfl, left - 1, (by omega), K53M.step G s, left - 1, seen, true, true, (some .non), (some (.int 0)), (some (.int 0)), ?_, rfl, S2.trans E9, hW9, E9.of nsw hsd2, (I.stepG o hlp), hSO⟩
                    rw [ce1]
                    rfl
                  · have hpl : ¬ (0 : Int) < (left : Int) := hpl
                    exact absurd (Int.ofNat_lt.mpr hlp) hpl
                | false =>
                  refine iteT ?_
                  refine ⟨_, rfl, wk, dx1, _, rfl, e2, wf_no _ _ _, wk, wa, G, M, s, rfl, hW2, fun q hq => ?_⟩
                  have S5 := Same.new (o := HO.tup [.int (s.1 : Int), .int s.2]) hq
                  refine ⟨_, rfl, sd, _, rfl, DGet.t (k := ky s) (S5 _ _ hsd2) upd_same, _, rfl, ?_⟩
                  have hW5 := hW2.mono S5
                  have e5 := S5 _ _ e2
                  have hsd5 := S5 _ _ hsd2
                  cases hval : valV (enc seen) (ky s) with
                  | some v0 =>
                    obtain ⟨l0, hmem, rfl⟩ := enc_some hval
                    obtain ⟨hl0, I'⟩ := I.cut o hmem
                    refine iteT ?_
                    -- left, is_cut = left % (seen[walk.spot()] - left), True
                    refine ⟨_, rfl, _, rfl, _, rfl, wk, dx1, _, rfl, e5, wf_no _ _ _, wk, wa, G, M, s, rfl, hW5, fun q2 hq2 => ?_⟩
                    have S6 := Same.new (o := HO.tup [.int (s.1 : Int), .int s.2]) hq2
                    have hg := DGet.t (k := ky s) (S6 _ _ hsd5) (upd_same (a := q2))
                    rw [hval] at hg
                    refine ⟨sd, _, rfl, hg, _, rfl, _, _, rfl, rfl, _, _, rfl, rfl, by omega, _, _, rfl, ?_⟩
                    have hmod : (left : Int) % ((l0 : Int) - (left : Int)) = ((left % (l0 - left) : Nat) : Int) := by
                      rw [Int.natCast_emod, Int.natCast_sub (Nat.le_of_lt hl0)]
                    have hml : left % (l0 - left) ≤ left := Nat.mod_le _ _
                    generalize left % (l0 - left) = L2 at hml I' hmod
                    -- if left > 0: walk.go_on(); left -= 1
                    have ce : (((left : Int) % ((l0 : Int) - (left : Int))) : Int) = ((L2 : Nat) : Int) := hmod
                    refine ⟨_, rfl, _, _, rfl, rfl, _, rfl, itD (fun hpl => ?_) fun hpl => ?_⟩
                    · have hpl0 : (0 : Int) < ((left : Int) % ((l0 : Int) - (left : Int))) := hpl
                      have hpl : 0 < L2 := Int.ofNat_lt.mp (ce ▸ hpl0)
                      refine ⟨_, rfl, wk, dx1, _, rfl, (S6 _ _ e5), wf_no _ _ _, wk, wa, G, M, s, rfl, (hW5.mono S6), hE, fun H9 E9 hW9 => ?_⟩
                      have ce1 : ((L2 - 1 : Nat) : Int) = ((left : Int) % ((l0 : Int) - (left : Int))) - 1 := by rw [ce]; omega
                      refine ⟨_, rfl, _, _, rfl, rfl, L2 - 1, (by omega), K53M.step G s, L2 - 1, seen, true, true, (some .non), (some (.int 0)), (some (.int 0)), ?_, rfl, (S2.trans (Same.e (S5.trans S6))).trans E9, hW9, E9.of nsw (S6 _ _ hsd5), (I'.stepG o hpl), hSO⟩
                      rw [ce1]
                      rfl
                    · have hpl : ¬ (0 : Int) < ((left : Int) % ((l0 : Int) - (left : Int))) := hpl
                      exact ⟨0, by omega, s, 0, seen, true, true, (some .non), (some (.int 0)), (some (.int 0)), (congrArg (fun z : Int => ([some (V.ref wk), some (V.int (n : Int)), some (V.int z), some (V.ref sd), some (V.bl true), some (V.bl true), (some .non), (some (.int 0)), (some (.int 0))] : List (Option V))) (show ((left : Int) % ((l0 : Int) - (left : Int))) = ((0 : Nat) : Int) by omega)), rfl, S2.trans (Same.e (S5.trans S6)), hW5.mono S6, S6 _ _ hsd5, (by rw [show L2 = 0 by omega] at I'; exact I'), hSO⟩
                  | none =>
                    have hno := enc_none hval
                    refine iteF ?_
                    -- seen[walk.spot()] = left
                    refine ⟨_, rfl, _, rfl, _, rfl, wk, dx1, _, rfl, e5, wf_no _ _ _, wk, wa, G, M, s, rfl, hW5, fun q2 hq2 => ?_⟩
                    have S6 := Same.new (o := HO.tup [.int (s.1 : Int), .int s.2]) hq2
                    refine ⟨sd, _, rfl, DPut.t (k := ky s) (S6 _ _ hsd5) upd_same (by rw [enc_len]; have := hSO.len o; omega), ?_⟩
                    rw [enc_snoc hval]
                    generalize hH7 : upd (upd (upd H2 q (.tup [.int (s.1 : Int), .int s.2])) q2 (.tup [.int (s.1 : Int), .int s.2])) sd (.dT (enc (seen ++ [(s, left)]))) = H7
                    have hsd7 : H7 sd = some (.dT (enc (seen ++ [(s, left)]))) := by rw [← hH7, upd_same]
                    have E7 : SameE [sd] H2 H7 := SameE.to fun b u n e => by
                      rw [← hH7, upd_ne n]
                      exact S6 _ _ (S5 _ _ e)
                    have S7 : SameE [wk] H H7 := SameE.to fun b u n e => E7.of (fun z => by rw [z, hsd0] at e; cases e) (S2.of n e)
                    have hW7 : Wst cR cY cW H7 wk wa G M s := hW0.to S7 ⟨dx1, E7.of nsw.symm e2⟩ hW2.lt
                    -- if left > 0: walk.go_on(); left -= 1
                    have ce : ((left : Int) : Int) = ((left : Nat) : Int) := rfl
                    refine ⟨_, rfl, _, _, rfl, rfl, _, rfl, itD (fun hpl => ?_) fun hpl => ?_⟩
                    · have hpl0 : (0 : Int) < (left : Int) := hpl
                      have hpl : 0 < left := Int.ofNat_lt.mp (ce ▸ hpl0)
                      refine ⟨_, rfl, wk, dx1, _, rfl, (E7.of nsw.symm e2), wf_no _ _ _, wk, wa, G, M, s, rfl, hW7, hE, fun H9 E9 hW9 => ?_⟩
                      have ce1 : ((left - 1 : Nat) : Int) = (left : Int) - 1 := by rw [ce]; omega
                      refine ⟨_, rfl, _, _, rfl, rfl, left - 1, (by omega), K53M.step G s, left - 1, (seen ++ [(s, left)]), true, false, (some .non), (some (.int 0)), (some (.int 0)), ?_, rfl, S7.trans E9, hW9, E9.of nsw hsd7, (I.snoc o hlp), (hSO.snoc o hR hW.lt I.nn hno)⟩
                      rw [ce1]
                      rfl
                    · have hpl : ¬ (0 : Int) < (left : Int) := hpl
                      exact absurd (Int.ofNat_lt.mpr hlp) hpl
          · exact absurd h1 (hno m)
          · exact absurd h1 (hno m)
        · have hsz := o.fall_sz hW.lt hr2
          have hx2 := hS2 _ _ hx
          have hpos := hr2.pos
          refine ⟨_, rfl, _, rfl, itD (fun z => by cases z) fun _ => ⟨_, rfl, _, rfl, x, cR, dxr, _, _, rfl, hx2, T.clRound, T.nRs, rf_steps _ _ _ _, _, _, rfl, rfl, ⟨by omega, by omega⟩, ?_⟩⟩
          rcases id htv with ⟨rfl, hz⟩ | ⟨m, h1, h2, h3, rfl⟩ | ⟨m, h1, h2, h3, rfl⟩
          · refine ⟨_, rfl, _, rfl, itD (fun z => by cases z) fun _ => ⟨_, rfl, _, rfl, _, _, rfl, ?_⟩⟩
            rw [min_if]
            refine ⟨_, rfl, _, _, rfl, rfl, _, rfl, itD (fun hp => ?_) fun hp => ?_⟩
            · have hp : (0 : Int) < (min 0 ((left : Int) / (nr : Int))) := hp
              obtain ⟨wn, hwn, q1, q2, q3, q4⟩ := whole_w hr2 htv ⟨fun z => (by cases z), fun t z => (by cases z; rfl)⟩ hp
              refine ⟨_, rfl, _, rfl, wk, dx1, _, rfl, e2, wf_no _ _ _, _, rfl, wk, wa, G, M, s, (min 0 ((left : Int) / (nr : Int))), nr, rfl, hW2, hr2, fun H9 E9 hW9 => ?_⟩
              rw [hwn] at hW9
              have e9 : ((left - wn * nr : Nat) : Int) = (left : Int) - (min 0 ((left : Int) / (nr : Int))) * (nr : Int) := by
                rw [hwn, Int.natCast_sub q4, Int.natCast_mul]
              have hw1 : 1 ≤ wn * nr := Nat.mul_le_mul q1 hpos
              refine ⟨_, _, rfl, rfl, left - wn * nr, by omega, _, left - wn * nr, seen, rf0, cut, some (.ref x), (some (.int 0)), some (.int (min 0 ((left : Int) / (nr : Int)))), ?_, rfl, S2.trans E9, hW9, E9.of nsw hsd2, I.jump o hr2 (fun _ => q2) q3 q4, hSO⟩
              rw [e9]
              rfl
            · -- is_refused = is_refused or walk.is_refused()
              refine ⟨_, rfl, _, rfl, ?_⟩
              cases rf0 with
              | true =>
                refine iteT ?_
                -- if walk.is_refused() and not is_cut
                refine ⟨_, rfl, wk, dx1, _, rfl, e2, wf_no _ _ _, wk, wa, G, M, s, rfl, hW2, _, rfl, ?_⟩
                cases hR : K53M.isRef G s with
                | false =>
                  refine iteF ?_
                  -- if left > 0: walk.go_on(); left -= 1
                  have ce : ((left : Int) : Int) = ((left : Nat) : Int) := rfl
                  refine ⟨_, rfl, _, _, rfl, rfl, _, rfl, itD (fun hpl => ?_) fun hpl => ?_⟩
                  · have hpl0 : (0 : Int) < (left : Int) := hpl
                    have hpl : 0 < left := Int.ofNat_lt.mp (ce ▸ hpl0)
                    refine ⟨_, rfl, wk, dx1, _, rfl, e2, wf_no _ _ _, wk, wa, G, M, s, rfl, hW2, hE, fun H9 E9 hW9 => ?_⟩
                    have ce1 : ((left - 1 : Nat) : Int) = (left : Int) - 1 := by rw [ce]; omega
                    refine ⟨_, rfl, _, _, rfl, rfl, left - 1, (by omega), K53M.step G s, left - 1, seen, true, cut, (some (.ref x)), (some (.int 0)), (some (.int (min 0 ((left : Int) / (nr : Int))))), ?_, rfl, S2.trans E9, hW9, E9.of nsw hsd2, (I.stepG o hlp), hSO⟩
                    rw [ce1]
                    rfl
                  · have hpl : ¬ (0 : Int) < (left : Int) := hpl
                    exact absurd (Int.ofNat_lt.mpr hlp) hpl
                | true =>
                  refine iteT ⟨_, rfl, _, rfl, ?_⟩
                  cases cut with
                  | true =>
                    refine iteF ?_
                    -- if left > 0: walk.go_on(); left -= 1
                    have ce : ((left : Int) : Int) = ((left : Nat) : Int) := rfl
                    refine ⟨_, rfl, _, _, rfl, rfl, _, rfl, itD (fun hpl => ?_) fun hpl => ?_⟩
                    · have hpl0 : (0 : Int) < (left : Int) := hpl
                      have hpl : 0 < left := Int.ofNat_lt.mp (ce ▸ hpl0)
                      refine ⟨_, rfl, wk, dx1, _, rfl, e2, wf_no _ _ _, wk, wa, G, M, s, rfl, hW2, hE, fun H9 E9 hW9 => ?_⟩
                      have ce1 : ((left - 1 : Nat) : Int) = (left : Int) - 1 := by rw [ce]; omega
                      refine ⟨_, rfl, _, _, rfl, rfl, left - 1, (by omega), K53M.step G s, left - 1, seen, true, true, (some (.ref x)), (some (.int 0)), (some (.int (min 0 ((left : Int) / (nr : Int))))), ?_, rfl, S2.trans E9, hW9, E9.of nsw hsd2, (I.stepG o hlp), hSO⟩
                      rw [ce1]
                      rfl
                    · have hpl : ¬ (0 : Int) < (left : Int) := hpl
                      exact absurd (Int.ofNat_lt.mpr hlp) hpl
                  | false =>
                    refine iteT ?_
                    refine ⟨_, rfl, wk, dx1, _, rfl, e2, wf_no _ _ _, wk, wa, G, M, s, rfl, hW2, fun q hq => ?_⟩
                    have S5 := Same.new (o := HO.tup [.int (s.1 : Int), .int s.2]) hq
                    refine ⟨_, rfl, sd, _, rfl, DGet.t (k := ky s) (S5 _ _ hsd2) upd_same, _, rfl, ?_⟩
                    have hW5 := hW2.mono S5
                    have e5 := S5 _ _ e2
                    have hsd5 := S5 _ _ hsd2
                    cases hval : valV (enc seen) (ky s) with
                    | some v0 =>
                      obtain ⟨l0, hmem, rfl⟩ := enc_some hval
                      obtain ⟨hl0, I'⟩ := I.cut o hmem
                      refine iteT ?_
                      -- left, is_cut = left % (seen[walk.spot()] - left), True
                      refine ⟨_, rfl, _, rfl, _, rfl, wk, dx1, _, rfl, e5, wf_no _ _ _, wk, wa, G, M, s, rfl, hW5, fun q2 hq2 => ?_⟩
                      have S6 := Same.new (o := HO.tup [.int (s.1 : Int), .int s.2]) hq2
                      have hg := DGet.t (k := ky s) (S6 _ _ hsd5) (upd_same (a := q2))
                      rw [hval] at hg
                      refine ⟨sd, _, rfl, hg, _, rfl, _, _, rfl, rfl, _, _, rfl, rfl, by omega, _, _, rfl, ?_⟩
                      have hmod : (left : Int) % ((l0 : Int) - (left : Int)) = ((left % (l0 - left) : Nat) : Int) := by
                        rw [Int.natCast_emod, Int.natCast_sub (Nat.le_of_lt hl0)]
                      have hml : left % (l0 - left) ≤ left := Nat.mod_le _ _
                      generalize left % (l0 - left) = L2 at hml I' hmod
                      -- if left > 0: walk.go_on(); left -= 1
                      have ce : (((left : Int) % ((l0 : Int) - (left : Int))) : Int) = ((L2 : Nat) : Int) := hmod
                      refine ⟨_, rfl, _, _, rfl, rfl, _, rfl, itD (fun hpl => ?_) fun hpl => ?_⟩
                      · have hpl0 : (0 : Int) < ((left : Int) % ((l0 : Int) - (left : Int))) := hpl
                        have hpl : 0 < L2 := Int.ofNat_lt.mp (ce ▸ hpl0)
                        refine ⟨_, rfl, wk, dx1, _, rfl, (S6 _ _ e5), wf_no _ _ _, wk, wa, G, M, s, rfl, (hW5.mono S6), hE, fun H9 E9 hW9 => ?_⟩
                        have ce1 : ((L2 - 1 : Nat) : Int) = ((left : Int) % ((l0 : Int) - (left : Int))) - 1 := by rw [ce]; omega
                        refine ⟨_, rfl, _, _, rfl, rfl, L2 - 1, (by omega), K53M.step G s, L2 - 1, seen, true, true, (some (.ref x)), (some (.int 0)), (some (.int (min 0 ((left : Int) / (nr : Int))))), ?_, rfl, (S2.trans (Same.e (S5.trans S6))).trans E9, hW9, E9.of nsw (S6 _ _ hsd5), (I'.stepG o hpl), hSO⟩
                        rw [ce1]
                        rfl
                      · have hpl : ¬ (0 : Int) < ((left : Int) % ((l0 : Int) - (left : Int))) := hpl
                        exact ⟨0, by omega, s, 0, seen, true, true, (some (.ref x)), (some (.int 0)), (some (.int (min 0 ((left : Int) / (nr : Int))))), (congrArg (fun z : Int => ([some (V.ref wk), some (V.int (n : Int)), some (V.int z), some (V.ref sd), some (V.bl true), some (V.bl true), (some (.ref x)), (some (.int 0)), (some (.int (min 0 ((left : Int) / (nr : Int)))))] : List (Option V))) (show ((left : Int) % ((l0 : Int) - (left : Int))) = ((0 : Nat) : Int) by omega)), rfl, S2.trans (Same.e (S5.trans S6)), hW5.mono S6, S6 _ _ hsd5, (by rw [show L2 = 0 by omega] at I'; exact I'), hSO⟩
                    | none =>
                      have hno := enc_none hval
                      refine iteF ?_
                      -- seen[walk.spot()] = left
                      refine ⟨_, rfl, _, rfl, _, rfl, wk, dx1, _, rfl, e5, wf_no _ _ _, wk, wa, G, M, s, rfl, hW5, fun q2 hq2 => ?_⟩
                      have S6 := Same.new (o := HO.tup [.int (s.1 : Int), .int s.2]) hq2
                      refine ⟨sd, _, rfl, DPut.t (k := ky s) (S6 _ _ hsd5) upd_same (by rw [enc_len]; have := hSO.len o; omega), ?_⟩
                      rw [enc_snoc hval]
                      generalize hH7 : upd (upd (upd H2 q (.tup [.int (s.1 : Int), .int s.2])) q2 (.tup [.int (s.1 : Int), .int s.2])) sd (.dT (enc (seen ++ [(s, left)]))) = H7
                      have hsd7 : H7 sd = some (.dT (enc (seen ++ [(s, left)]))) := by rw [← hH7, upd_same]
                      have E7 : SameE [sd] H2 H7 := SameE.to fun b u n e => by
                        rw [← hH7, upd_ne n]
                        exact S6 _ _ (S5 _ _ e)
                      have S7 : SameE [wk] H H7 := SameE.to fun b u n e => E7.of (fun z => by rw [z, hsd0] at e; cases e) (S2.of n e)
                      have hW7 : Wst cR cY cW H7 wk wa G M s := hW0.to S7 ⟨dx1, E7.of nsw.symm e2⟩ hW2.lt
                      -- if left > 0: walk.go_on(); left -= 1
                      have ce : ((left : Int) : Int) = ((left : Nat) : Int) := rfl
                      refine ⟨_, rfl, _, _, rfl, rfl, _, rfl, itD (fun hpl => ?_) fun hpl => ?_⟩
                      · have hpl0 : (0 : Int) < (left : Int) := hpl
                        have hpl : 0 < left := Int.ofNat_lt.mp (ce ▸ hpl0)
                        refine ⟨_, rfl, wk, dx1, _, rfl, (E7.of nsw.symm e2), wf_no _ _ _, wk, wa, G, M, s, rfl, hW7, hE, fun H9 E9 hW9 => ?_⟩
                        have ce1 : ((left - 1 : Nat) : Int) = (left : Int) - 1 := by rw [ce]; omega
                        refine ⟨_, rfl, _, _, rfl, rfl, left - 1, (by omega), K53M.step G s, left - 1, (seen ++ [(s, left)]), true, false, (some (.ref x)), (some (.int 0)), (some (.int (min 0 ((left : Int) / (nr : Int))))), ?_, rfl, S7.trans E9, hW9, E9.of nsw hsd7, (I.snoc o hlp), (hSO.snoc o hR hW.lt I.nn hno)⟩
                        rw [ce1]
                        rfl
                      · have hpl : ¬ (0 : Int) < (left : Int) := hpl
                        exact absurd (Int.ofNat_lt.mpr hlp) hpl
              | false =>
                refine iteF ?_
                refine ⟨_, rfl, wk, dx1, _, rfl, e2, wf_no _ _ _, wk, wa, G, M, s, rfl, hW2, ?_⟩
                -- if walk.is_refused() and not is_cut
                refine ⟨_, rfl, wk, dx1, _, rfl, e2, wf_no _ _ _, wk, wa, G, M, s, rfl, hW2, _, rfl, ?_⟩
                cases hR : K53M.isRef G s with
                | false =>
                  refine iteF ?_
                  -- if left > 0: walk.go_on(); left -= 1
                  have ce : ((left : Int) : Int) = ((left : Nat) : Int) := rfl
                  refine ⟨_, rfl, _, _, rfl, rfl, _, rfl, itD (fun hpl => ?_) fun hpl => ?_⟩
                  · have hpl0 : (0 : Int) < (left : Int) := hpl
                    have hpl : 0 < left := Int.ofNat_lt.mp (ce ▸ hpl0)
                    refine ⟨_, rfl, wk, dx1, _, rfl, e2, wf_no _ _ _, wk, wa, G, M, s, rfl, hW2, hE, fun H9 E9 hW9 => ?_⟩
                    have ce1 : ((left - 1 : Nat) : Int) = (left : Int) - 1 := by rw [ce]; omega
                    refine ⟨_, rfl, _, _, rfl, rfl, left - 1, (by omega), K53M.step G s, left - 1, seen, false, cut, (some (.ref x)), (some (.int 0)), (some (.int (min 0 ((left : Int) / (nr : Int))))), ?_, rfl, S2.trans E9, hW9, E9.of nsw hsd2, (I.stepG o hlp), hSO⟩
                    rw [ce1]
                    rfl
                  · have hpl : ¬ (0 : Int) < (left : Int) := hpl
                    exact absurd (Int.ofNat_lt.mpr hlp) hpl
                | true =>
                  refine iteT ⟨_, rfl, _, rfl, ?_⟩
                  cases cut with
                  | true =>
                    refine iteF ?_
                    -- if left > 0: walk.go_on(); left -= 1
                    have ce : ((left : Int) : Int) = ((left : Nat) : Int) := rfl
                    refine ⟨_, rfl, _, _, rfl, rfl, _, rfl, itD (fun hpl => ?_) fun hpl => ?_⟩
                    · have hpl0 : (0 : Int) < (left : Int) := hpl
                      have hpl : 0 < left := Int.ofNat_lt.mp (ce ▸ hpl0)
                      refine ⟨_, rfl, wk, dx1, _, rfl, e2, wf_no _ _ _, wk, wa, G, M, s, rfl, hW2, hE, fun H9 E9 hW9 => ?_⟩
                      have ce1 : ((left - 1 : Nat) : Int) = (left : Int) - 1 := by rw [ce]; omega
                      refine ⟨_, rfl, _, _, rfl, rfl, left - 1, (by omega), K53M.step G s, left - 1, seen, true, true, (some (.ref x)), (some (.int 0)), (some (.int (min 0 ((left : Int) / (nr : Int))))), ?_, rfl, S2.trans E9, hW9, E9.of nsw hsd2, (I.stepG o hlp), hSO⟩
                      rw [ce1]
                      rfl
                    · have hpl : ¬ (0 : Int) < (left : Int) := hpl
                      exact absurd (Int.ofNat_lt.mpr hlp) hpl
                  | false =>
                    refine iteT ?_
                    refine ⟨_, rfl, wk, dx1, _, rfl, e2, wf_no _ _ _, wk, wa, G, M, s, rfl, hW2, fun q hq => ?_⟩
                    have S5 := Same.new (o := HO.tup [.int (s.1 : Int), .int s.2]) hq
                    refine ⟨_, rfl, sd, _, rfl, DGet.t (k := ky s) (S5 _ _ hsd2) upd_same, _, rfl, ?_⟩
                    have hW5 := hW2.mono S5
                    have e5 := S5 _ _ e2
                    have hsd5 := S5 _ _ hsd2
                    cases hval : valV (enc seen) (ky s) with
                    | some v0 =>
                      obtain ⟨l0, hmem, rfl⟩ := enc_some hval
                      obtain ⟨hl0, I'⟩ := I.cut o hmem
                      refine iteT ?_
                      -- left, is_cut = left % (seen[walk.spot()] - left), True
                      refine ⟨_, rfl, _, rfl, _, rfl, wk, dx1, _, rfl, e5, wf_no _ _ _, wk, wa, G, M, s, rfl, hW5, fun q2 hq2 => ?_⟩
                      have S6 := Same.new (o := HO.tup [.int (s.1 : Int), .int s.2]) hq2
                      have hg := DGet.t (k := ky s) (S6 _ _ hsd5) (upd_same (a := q2))
                      rw [hval] at hg
                      refine ⟨sd, _, rfl, hg, _, rfl, _, _, rfl, rfl, _, _, rfl, rfl, by omega, _, _, rfl, ?_⟩
                      have hmod : (left : Int) % ((l0 : Int) - (left : Int)) = ((left % (l0 - left) : Nat) : Int) := by
                        rw [Int.natCast_emod, Int.natCast_sub (Nat.le_of_lt hl0)]
                      have hml : left % (l0 - left) ≤ left := Nat.mod_le _ _
                      generalize left % (l0 - left) = L2 at hml I' hmod
                      -- if left > 0: walk.go_on(); left -= 1
                      have ce : (((left : Int) % ((l0 : Int) - (left : Int))) : Int) = ((L2 : Nat) : Int) := hmod
                      refine ⟨_, rfl, _, _, rfl, rfl, _, rfl, itD (fun hpl => ?_) fun hpl => ?_⟩
                      · have hpl0 : (0 : Int) < ((left : Int) % ((l0 : Int) - (left : Int))) := hpl
                        have hpl : 0 < L2 := Int.ofNat_lt.mp (ce ▸ hpl0)
                        refine ⟨_, rfl, wk, dx1, _, rfl, (S6 _ _ e5), wf_no _ _ _, wk, wa, G, M, s, rfl, (hW5.mono S6), hE, fun H9 E9 hW9 => ?_⟩
                        have ce1 : ((L2 - 1 : Nat) : Int) = ((left : Int) % ((l0 : Int) - (left : Int))) - 1 := by rw [ce]; omega
                        refine ⟨_, rfl, _, _, rfl, rfl, L2 - 1, (by omega), K53M.step G s, L2 - 1, seen, true, true, (some (.ref x)), (some (.int 0)), (some (.int (min 0 ((left : Int) / (nr : Int))))), ?_, rfl, (S2.trans (Same.e (S5.trans S6))).trans E9, hW9, E9.of nsw (S6 _ _ hsd5), (I'.stepG o hpl), hSO⟩
                        rw [ce1]
                        rfl
                      · have hpl : ¬ (0 : Int) < ((left : Int) % ((l0 : Int) - (left : Int))) := hpl
                        exact ⟨0, by omega, s, 0, seen, true, true, (some (.ref x)), (some (.int 0)), (some (.int (min 0 ((left : Int) / (nr : Int))))), (congrArg (fun z : Int => ([some (V.ref wk), some (V.int (n : Int)), some (V.int z), some (V.ref sd), some (V.bl true), some (V.bl true), (some (.ref x)), (some (.int 0)), (some (.int (min 0 ((left : Int) / (nr : Int)))))] : List (Option V))) (show ((left : Int) % ((l0 : Int) - (left : Int))) = ((0 : Nat) : Int) by omega)), rfl, S2.trans (Same.e (S5.trans S6)), hW5.mono S6, S6 _ _ hsd5, (by rw [show L2 = 0 by omega] at I'; exact I'), hSO⟩
                    | none =>
                      have hno := enc_none hval
                      refine iteF ?_
                      -- seen[walk.spot()] = left
                      refine ⟨_, rfl, _, rfl, _, rfl, wk, dx1, _, rfl, e5, wf_no _ _ _, wk, wa, G, M, s, rfl, hW5, fun q2 hq2 => ?_⟩
                      have S6 := Same.new (o := HO.tup [.int (s.1 : Int), .int s.2]) hq2
                      refine ⟨sd, _, rfl, DPut.t (k := ky s) (S6 _ _ hsd5) upd_same (by rw [enc_len]; have := hSO.len o; omega), ?_⟩
                      rw [enc_snoc hval]
                      generalize hH7 : upd (upd (upd H2 q (.tup [.int (s.1 : Int), .int s.2])) q2 (.tup [.int (s.1 : Int), .int s.2])) sd (.dT (enc (seen ++ [(s, left)]))) = H7
                      have hsd7 : H7 sd = some (.dT (enc (seen ++ [(s, left)]))) := by rw [← hH7, upd_same]
                      have E7 : SameE [sd] H2 H7 := SameE.to fun b u n e => by
                        rw [← hH7, upd_ne n]
                        exact S6 _ _ (S5 _ _ e)
                      have S7 : SameE [wk] H H7 := SameE.to fun b u n e => E7.of (fun z => by rw [z, hsd0] at e; cases e) (S2.of n e)
                      have hW7 : Wst cR cY cW H7 wk wa G M s := hW0.to S7 ⟨dx1, E7.of nsw.symm e2⟩ hW2.lt
                      -- if left > 0: walk.go_on(); left -= 1
                      have ce : ((left : Int) : Int) = ((left : Nat) : Int) := rfl
                      refine ⟨_, rfl, _, _, rfl, rfl, _, rfl, itD (fun hpl => ?_) fun hpl => ?_⟩
                      · have hpl0 : (0 : Int) < (left : Int) := hpl
                        have hpl : 0 < left := Int.ofNat_lt.mp (ce ▸ hpl0)
                        refine ⟨_, rfl, wk, dx1, _, rfl, (E7.of nsw.symm e2), wf_no _ _ _, wk, wa, G, M, s, rfl, hW7, hE, fun H9 E9 hW9 => ?_⟩
                        have ce1 : ((left - 1 : Nat) : Int) = (left : Int) - 1 := by rw [ce]; omega
                        refine ⟨_, rfl, _, _, rfl, rfl, left - 1, (by omega), K53M.step G s, left - 1, (seen ++ [(s, left)]), true, false, (some (.ref x)), (some (.int 0)), (some (.int (min 0 ((left : Int) / (nr : Int))))), ?_, rfl, S7.trans E9, hW9, E9.of nsw hsd7, (I.snoc o hlp), (hSO.snoc o hR hW.lt I.nn hno)⟩
                        rw [ce1]
                        rfl
                      · have hpl : ¬ (0 : Int) < (left : Int) := hpl
                        exact absurd (Int.ofNat_lt.mpr hlp) hpl
          · refine ⟨_, rfl, _, rfl, itD (fun _ => ⟨_, rfl, ?_⟩) fun z => absurd rfl z⟩
            refine ⟨_, rfl, _, _, rfl, rfl, _, rfl, itD (fun hp => ?_) fun hp => ?_⟩
            · have hp : (0 : Int) < ((left : Int) / (nr : Int)) := hp
              obtain ⟨wn, hwn, q1, q2, q3, q4⟩ := whole_w hr2 htv ⟨fun _ => rfl, fun t z => (by cases z)⟩ hp
              refine ⟨_, rfl, _, rfl, wk, dx1, _, rfl, e2, wf_no _ _ _, _, rfl, wk, wa, G, M, s, ((left : Int) / (nr : Int)), nr, rfl, hW2, hr2, fun H9 E9 hW9 => ?_⟩
              rw [hwn] at hW9
              have e9 : ((left - wn * nr : Nat) : Int) = (left : Int) - ((left : Int) / (nr : Int)) * (nr : Int) := by
                rw [hwn, Int.natCast_sub q4, Int.natCast_mul]
              have hw1 : 1 ≤ wn * nr := Nat.mul_le_mul q1 hpos
              refine ⟨_, _, rfl, rfl, left - wn * nr, by omega, _, left - wn * nr, seen, rf0, cut, some (.ref x), (some .non), some (.int ((left : Int) / (nr : Int))), ?_, rfl, S2.trans E9, hW9, E9.of nsw hsd2, I.jump o hr2 (fun _ => q2) q3 q4, hSO⟩
              rw [e9]
              rfl
            · -- is_refused = is_refused or walk.is_refused()
              refine ⟨_, rfl, _, rfl, ?_⟩
              cases rf0 with
              | true =>
                refine iteT ?_
                -- if walk.is_refused() and not is_cut
                refine ⟨_, rfl, wk, dx1, _, rfl, e2, wf_no _ _ _, wk, wa, G, M, s, rfl, hW2, _, rfl, ?_⟩
                cases hR : K53M.isRef G s with
                | false =>
                  refine iteF ?_
                  -- if left > 0: walk.go_on(); left -= 1
                  have ce : ((left : Int) : Int) = ((left : Nat) : Int) := rfl
                  refine ⟨_, rfl, _, _, rfl, rfl, _, rfl, itD (fun hpl => ?_) fun hpl => ?_⟩
                  · have hpl0 : (0 : Int) < (left : Int) := hpl
                    have hpl : 0 < left := Int.ofNat_lt.mp (ce ▸ hpl0)
                    refine ⟨_, rfl, wk, dx1, _, rfl, e2, wf_no _ _ _, wk, wa, G, M, s, rfl, hW2, hE, fun H9 E9 hW9 => ?_⟩
                    have ce1 : ((left - 1 : Nat) : Int) = (left : Int) - 1 := by rw [ce]; omega
                    refine ⟨_, rfl, _, _, rfl, rfl, left - 1, (by omega), K53M.step G s, left - 1, seen, true, cut, (some (.ref x)), (some .non), (some (.int ((left : Int) / (nr : Int)))), ?_, rfl, S2.trans E9, hW9, E9.of nsw hsd2, (I.stepG o hlp), hSO⟩
                    rw [ce1]
                    rfl
                  · have hpl : ¬ (0 : Int) < (left : Int) := hpl
                    exact absurd (Int.ofNat_lt.mpr hlp) hpl
                | true =>
                  refine iteT ⟨_, rfl, _, rfl, ?_⟩
                  cases cut with
                  | true =>
                    refine iteF ?_
                    -- if left > 0: walk.go_on(); left -= 1
                    have ce : ((left : Int) : Int) = ((left : Nat) : Int) := rfl
                    refine ⟨_, rfl, _, _, rfl, rfl, _, rfl, itD (fun hpl => ?_) fun hpl => ?_⟩
                    · have hpl0 : (0 : Int) < (left : Int) := hpl
                      have hpl : 0 < left := Int.ofNat_lt.mp (ce ▸ hpl0)
                      refine ⟨_, rfl, wk, dx1, _, rfl, e2, wf_no _ _ _, wk, wa, G, M, s, rfl, hW2, hE, fun H9 E9 hW9 => ?_⟩
                      have ce1 : ((left - 1 : Nat) : Int) = (left : Int) - 1 := by rw [ce]; omega
                      refine ⟨_, rfl, _, _, rfl, rfl, left - 1, (by omega), K53M.step G s, left - 1, seen, true, true, (some (.ref x)), (some .non), (some (.int ((left : Int) / (nr : Int)))), ?_, rfl, S2.trans E9, hW9, E9.of nsw hsd2, (I.stepG o hlp), hSO⟩
                      rw [ce1]
                      rfl
                    · have hpl : ¬ (0 : Int) < (left : Int) := hpl
                      exact absurd (Int.ofNat_lt.mpr hlp) hpl
                  | false =>
                    refine iteT ?_
                    refine ⟨_, rfl, wk, dx1, _, rfl, e2, wf_no _ _ _, wk, wa, G, M, s, rfl, hW2, fun q hq => ?_⟩
                    have S5 := Same.new (o := HO.tup [.int (s.1 : Int), .int s.2]) hq
                    refine ⟨_, rfl, sd, _, rfl, DGet.t (k := ky s) (S5 _ _ hsd2) upd_same, _, rfl, ?_⟩
                    have hW5 := hW2.mono S5
                    have e5 := S5 _ _ e2
                    have hsd5 := S5 _ _ hsd2
                    cases hval : valV (enc seen) (ky s) with
                    | some v0 =>
                      obtain ⟨l0, hmem, rfl⟩ := enc_some hval
                      obtain ⟨hl0, I'⟩ := I.cut o hmem
                      refine iteT ?_
                      -- left, is_cut = left % (seen[walk.spot()] - left), True
                      refine ⟨_, rfl, _, rfl, _, rfl, wk, dx1, _, rfl, e5, wf_no _ _ _, wk, wa, G, M, s, rfl, hW5, fun q2 hq2 => ?_⟩
                      have S6 := Same.new (o := HO.tup [.int (s.1 : Int), .int s.2]) hq2
                      have hg := DGet.t (k := ky s) (S6 _ _ hsd5) (upd_same (a := q2))
                      rw [hval] at hg
                      refine ⟨sd, _, rfl, hg, _, rfl, _, _, rfl, rfl, _, _, rfl, rfl, by omega, _, _, rfl, ?_⟩
                      have hmod : (left : Int) % ((l0 : Int) - (left : Int)) = ((left % (l0 - left) : Nat) : Int) := by
                        rw [Int.natCast_emod, Int.natCast_sub (Nat.le_of_lt hl0)]
                      have hml : left % (l0 - left) ≤ left := Nat.mod_le _ _
                      generalize left % (l0 - left) = L2 at hml I' hmod
                      -- if left > 0: walk.go_on(); left -= 1
                      have ce : (((left : Int) % ((l0 : Int) - (left : Int))) : Int) = ((L2 : Nat) : Int) := hmod
                      refine ⟨_, rfl, _, _, rfl, rfl, _, rfl, itD (fun hpl => ?_) fun hpl => ?_⟩
                      · have hpl0 : (0 : Int) < ((left : Int) % ((l0 : Int) - (left : Int))) := hpl
                        have hpl : 0 < L2 := Int.ofNat_lt.mp (ce ▸ hpl0)
                        refine ⟨_, rfl, wk, dx1, _, rfl, (S6 _ _ e5), wf_no _ _ _, wk, wa, G, M, s, rfl, (hW5.mono S6), hE, fun H9 E9 hW9 => ?_⟩
                        have ce1 : ((L2 - 1 : Nat) : Int) = ((left : Int) % ((l0 : Int) - (left : Int))) - 1 := by rw [ce]; omega
                        refine ⟨_, rfl, _, _, rfl, rfl, L2 - 1, (by omega), K53M.step G s, L2 - 1, seen, true, true, (some (.ref x)), (some .non), (some (.int ((left : Int) / (nr : Int)))), ?_, rfl, (S2.trans (Same.e (S5.trans S6))).trans E9, hW9, E9.of nsw (S6 _ _ hsd5), (I'.stepG o hpl), hSO⟩
                        rw [ce1]
                        rfl
                      · have hpl : ¬ (0 : Int) < ((left : Int) % ((l0 : Int) - (left : Int))) := hpl
                        exact ⟨0, by omega, s, 0, seen, true, true, (some (.ref x)), (some .non), (some (.int ((left : Int) / (nr : Int)))), (congrArg (fun z : Int => ([some (V.ref wk), some (V.int (n : Int)), some (V.int z), some (V.ref sd), some (V.bl true), some (V.bl true), (some (.ref x)), (some .non), (some (.int ((left : Int) / (nr : Int))))] : List (Option V))) (show ((left : Int) % ((l0 : Int) - (left : Int))) = ((0 : Nat) : Int) by omega)), rfl, S2.trans (Same.e (S5.trans S6)), hW5.mono S6, S6 _ _ hsd5, (by rw [show L2 = 0 by omega] at I'; exact I'), hSO⟩
                    | none =>
                      have hno := enc_none hval
                      refine iteF ?_
                      -- seen[walk.spot()] = left
                      refine ⟨_, rfl, _, rfl, _, rfl, wk, dx1, _, rfl, e5, wf_no _ _ _, wk, wa, G, M, s, rfl, hW5, fun q2 hq2 => ?_⟩
                      have S6 := Same.new (o := HO.tup [.int (s.1 : Int), .int s.2]) hq2
                      refine ⟨sd, _, rfl, DPut.t (k := ky s) (S6 _ _ hsd5) upd_same (by rw [enc_len]; have := hSO.len o; omega), ?_⟩
                      rw [enc_snoc hval]
                      generalize hH7 : upd (upd (upd H2 q (.tup [.int (s.1 : Int), .int s.2])) q2 (.tup [.int (s.1 : Int), .int s.2])) sd (.dT (enc (seen ++ [(s, left)]))) = H7
                      have hsd7 : H7 sd = some (.dT (enc (seen ++ [(s, left)]))) := by rw [← hH7, upd_same]
                      have E7 : SameE [sd] H2 H7 := SameE.to fun b u n e => by
                        rw [← hH7, upd_ne n]
                        exact S6 _ _ (S5 _ _ e)
                      have S7 : SameE [wk] H H7 := SameE.to fun b u n e => E7.of (fun z => by rw [z, hsd0] at e; cases e) (S2.of n e)
                      have hW7 : Wst cR cY cW H7 wk wa G M s := hW0.to S7 ⟨dx1, E7.of nsw.symm e2⟩ hW2.lt
                      -- if left > 0: walk.go_on(); left -= 1
                      have ce : ((left : Int) : Int) = ((left : Nat) : Int) := rfl
                      refine ⟨_, rfl, _, _, rfl, rfl, _, rfl, itD (fun hpl => ?_) fun hpl => ?_⟩
                      · have hpl0 : (0 : Int) < (left : Int) := hpl
                        have hpl : 0 < left := Int.ofNat_lt.mp (ce ▸ hpl0)
                        refine ⟨_, rfl, wk, dx1, _, rfl, (E7.of nsw.symm e2), wf_no _ _ _, wk, wa, G, M, s, rfl, hW7, hE, fun H9 E9 hW9 => ?_⟩
                        have ce1 : ((left - 1 : Nat) : Int) = (left : Int) - 1 := by rw [ce]; omega
                        refine ⟨_, rfl, _, _, rfl, rfl, left - 1, (by omega), K53M.step G s, left - 1, (seen ++ [(s, left)]), true, false, (some (.ref x)), (some .non), (some (.int ((left : Int) / (nr : Int)))), ?_, rfl, S7.trans E9, hW9, E9.of nsw hsd7, (I.snoc o hlp), (hSO.snoc o hR hW.lt I.nn hno)⟩
                        rw [ce1]
                        rfl
                      · have hpl : ¬ (0 : Int) < (left : Int) := hpl
                        exact absurd (Int.ofNat_lt.mpr hlp) hpl
              | false =>
                refine iteF ?_
                refine ⟨_, rfl, wk, dx1, _, rfl, e2, wf_no _ _ _, wk, wa, G, M, s, rfl, hW2, ?_⟩
                -- if walk.is_refused() and not is_cut
                refine ⟨_, rfl, wk, dx1, _, rfl, e2, wf_no _ _ _, wk, wa, G, M, s, rfl, hW2, _, rfl, ?_⟩
                cases hR : K53M.isRef G s with
                | false =>
                  refine iteF ?_
                  -- if left > 0: walk.go_on(); left -= 1
                  have ce : ((left : Int) : Int) = ((left : Nat) : Int) := rfl
                  refine ⟨_, rfl, _, _, rfl, rfl, _, rfl, itD (fun hpl => ?_) fun hpl => ?_⟩
                  · have hpl0 : (0 : Int) < (left : Int) := hpl
                    have hpl : 0 < left := Int.ofNat_lt.mp (ce ▸ hpl0)
                    refine ⟨_, rfl, wk, dx1, _, rfl, e2, wf_no _ _ _, wk, wa, G, M, s, rfl, hW2, hE, fun H9 E9 hW9 => ?_⟩
                    have ce1 : ((left - 1 : Nat) : Int) = (left : Int) - 1 := by rw [ce]; omega
                    refine ⟨_, rfl, _, _, rfl, rfl, left - 1, (by omega), K53M.step G s, left - 1, seen, false, cut, (some (.ref x)), (some .non), (some (.int ((left : Int) / (nr : Int)))), ?_, rfl, S2.trans E9, hW9, E9.of nsw hsd2, (I.stepG o hlp), hSO⟩
                    rw [ce1]
                    rfl
                  · have hpl : ¬ (0 : Int) < (left : Int) := hpl
                    exact absurd (Int.ofNat_lt.mpr hlp) hpl
                | true =>
                  refine iteT ⟨_, rfl, _, rfl, ?_⟩
                  cases cut with
                  | true =>
                    refine iteF ?_
                    -- if left > 0: walk.go_on(); left -= 1
                    have ce : ((left : Int) : Int) = ((left : Nat) : Int) := rfl
                    refine ⟨_, rfl, _, _, rfl, rfl, _, rfl, itD (fun hpl => ?_) fun hpl => ?_⟩
                    · have hpl0 : (0 : Int) < (left : Int) := hpl
                      have hpl : 0 < left := Int.ofNat_lt.mp (ce ▸ hpl0)
                      refine ⟨_, rfl, wk, dx1, _, rfl, e2, wf_no _ _ _, wk, wa, G, M, s, rfl, hW2, hE, fun H9 E9 hW9 => ?_⟩
                      have ce1 : ((left - 1 : Nat) : Int) = (left : Int) - 1 := by rw [ce]; omega
                      refine ⟨_, rfl, _, _, rfl, rfl, left - 1, (by omega), K53M.step G s, left - 1, seen, true, true, (some (.ref x)), (some .non), (some (.int ((left : Int) / (nr : Int)))), ?_, rfl, S2.trans E9, hW9, E9.of nsw hsd2, (I.stepG o hlp), hSO⟩
                      rw [ce1]
                      rfl
                    · have hpl : ¬ (0 : Int) < (left : Int) := hpl
                      exact absurd (Int.ofNat_lt.mpr hlp) hpl
                  | false =>
                    refine iteT ?_
                    refine ⟨_, rfl, wk, dx1, _, rfl, e2, wf_no _ _ _, wk, wa, G, M, s, rfl, hW2, fun q hq => ?_⟩
                    have S5 := Same.new (o := HO.tup [.int (s.1 : Int), .int s.2]) hq
                    refine ⟨_, rfl, sd, _, rfl, DGet.t (k := ky s) (S5 _ _ hsd2) upd_same, _, rfl, ?_⟩
                    have hW5 := hW2.mono S5
                    have e5 := S5 _ _ e2
                    have hsd5 := S5 _ _ hsd2
                    cases hval : valV (enc seen) (ky s) with
                    | some v0 =>
                      obtain ⟨l0, hmem, rfl⟩ := enc_some hval
                      obtain ⟨hl0, I'⟩ := I.cut o hmem
                      refine iteT ?_
                      -- left, is_cut = left % (seen[walk.spot()] - left), True
                      refine ⟨_, rfl, _, rfl, _, rfl, wk, dx1, _, rfl, e5, wf_no _ _ _, wk, wa, G, M, s, rfl, hW5, fun q2 hq2 => ?_⟩
                      have S6 := Same.new (o := HO.tup [.int (s.1 : Int), .int s.2]) hq2
                      have hg := DGet.t (k := ky s) (S6 _ _ hsd5) (upd_same (a := q2))
                      rw [hval] at hg
                      refine ⟨sd, _, rfl, hg, _, rfl, _, _, rfl, rfl, _, _, rfl, rfl, by omega, _, _, rfl, ?_⟩
                      have hmod : (left : Int) % ((l0 : Int) - (left : Int)) = ((left % (l0 - left) : Nat) : Int) := by
                        rw [Int.natCast_emod, Int.natCast_sub (Nat.le_of_lt hl0)]
                      have hml : left % (l0 - left) ≤ left := Nat.mod_le _ _
                      generalize left % (l0 - left) = L2 at hml I' hmod
                      -- if left > 0: walk.go_on(); left -= 1
                      have ce : (((left : Int) % ((l0 : Int) - (left : Int))) : Int) = ((L2 : Nat) : Int) := hmod
                      refine ⟨_, rfl, _, _, rfl, rfl, _, rfl, itD (fun hpl => ?_) fun hpl => ?_⟩
                      · have hpl0 : (0 : Int) < ((left : Int) % ((l0 : Int) - (left : Int))) := hpl
                        have hpl : 0 < L2 := Int.ofNat_lt.mp (ce ▸ hpl0)
                        refine ⟨_, rfl, wk, dx1, _, rfl, (S6 _ _ e5), wf_no _ _ _, wk, wa, G, M, s, rfl, (hW5.mono S6), hE, fun H9 E9 hW9 => ?_⟩
                        have ce1 : ((L2 - 1 : Nat) : Int) = ((left : Int) % ((l0 : Int) - (left : Int))) - 1 := by rw [ce]; omega
                        refine ⟨_, rfl, _, _, rfl, rfl, L2 - 1, (by omega), K53M.step G s, L2 - 1, seen, true, true, (some (.ref x)), (some .non), (some (.int ((left : Int) / (nr : Int)))), ?_, rfl, (S2.trans (Same.e (S5.trans S6))).trans E9, hW9, E9.of nsw (S6 _ _ hsd5), (I'.stepG o hpl), hSO⟩
                        rw [ce1]
                        rfl
                      · have hpl : ¬ (0 : Int) < ((left : Int) % ((l0 : Int) - (left : Int))) := hpl
                        exact ⟨0, by omega, s, 0, seen, true, true, (some (.ref x)), (some .non), (some (.int ((left : Int) / (nr : Int)))), (congrArg (fun z : Int => ([some (V.ref wk), some (V.int (n : Int)), some (V.int z), some (V.ref sd), some (V.bl true), some (V.bl true), (some (.ref x)), (some .non), (some (.int ((left : Int) / (nr : Int))))] : List (Option V))) (show ((left : Int) % ((l0 : Int) - (left : Int))) = ((0 : Nat) : Int) by omega)), rfl, S2.trans (Same.e (S5.trans S6)), hW5.mono S6, S6 _ _ hsd5, (by rw [show L2 = 0 by omega] at I'; exact I'), hSO⟩
                    | none =>
                      have hno := enc_none hval
                      refine iteF ?_
                      -- seen[walk.spot()] = left
                      refine ⟨_, rfl, _, rfl, _, rfl, wk, dx1, _, rfl, e5, wf_no _ _ _, wk, wa, G, M, s, rfl, hW5, fun q2 hq2 => ?_⟩
                      have S6 := Same.new (o := HO.tup [.int (s.1 : Int), .int s.2]) hq2
                      refine ⟨sd, _, rfl, DPut.t (k := ky s) (S6 _ _ hsd5) upd_same (by rw [enc_len]; have := hSO.len o; omega), ?_⟩
                      rw [enc_snoc hval]
                      generalize hH7 : upd (upd (upd H2 q (.tup [.int (s.1 : Int), .int s.2])) q2 (.tup [.int (s.1 : Int), .int s.2])) sd (.dT (enc (seen ++ [(s, left)]))) = H7
                      have hsd7 : H7 sd = some (.dT (enc (seen ++ [(s, left)]))) := by rw [← hH7, upd_same]
                      have E7 : SameE [sd] H2 H7 := SameE.to fun b u n e => by
                        rw [← hH7, upd_ne n]
                        exact S6 _ _ (S5 _ _ e)
                      have S7 : SameE [wk] H H7 := SameE.to fun b u n e => E7.of (fun z => by rw [z, hsd0] at e; cases e) (S2.of n e)
                      have hW7 : Wst cR cY cW H7 wk wa G M s := hW0.to S7 ⟨dx1, E7.of nsw.symm e2⟩ hW2.lt
                      -- if left > 0: walk.go_on(); left -= 1
                      have ce : ((left : Int) : Int) = ((left : Nat) : Int) := rfl
                      refine ⟨_, rfl, _, _, rfl, rfl, _, rfl, itD (fun hpl => ?_) fun hpl => ?_⟩
                      · have hpl0 : (0 : Int) < (left : Int) := hpl
                        have hpl : 0 < left := Int.ofNat_lt.mp (ce ▸ hpl0)
                        refine ⟨_, rfl, wk, dx1, _, rfl, (E7.of nsw.symm e2), wf_no _ _ _, wk, wa, G, M, s, rfl, hW7, hE, fun H9 E9 hW9 => ?_⟩
                        have ce1 : ((left - 1 : Nat) : Int) = (left : Int) - 1 := by rw [ce]; omega
                        refine ⟨_, rfl, _, _, rfl, rfl, left - 1, (by omega), K53M.step G s, left - 1, (seen ++ [(s, left)]), true, false, (some (.ref x)), (some .non), (some (.int ((left : Int) / (nr : Int)))), ?_, rfl, S7.trans E9, hW9, E9.of nsw hsd7, (I.snoc o hlp), (hSO.snoc o hR hW.lt I.nn hno)⟩
                        rw [ce1]
                        rfl
                      · have hpl : ¬ (0 : Int) < (left : Int) := hpl
                        exact absurd (Int.ofNat_lt.mpr hlp) hpl
          · refine ⟨_, rfl, _, rfl, itD (fun z => by cases z) fun _ => ⟨_, rfl, _, rfl, _, _, rfl, ?_⟩⟩
            rw [min_if]
            refine ⟨_, rfl, _, _, rfl, rfl, _, rfl, itD (fun hp => ?_) fun hp => ?_⟩
            · have hp : (0 : Int) < (min (K53M.tms G s m) ((left : Int) / (nr : Int))) := hp
              obtain ⟨wn, hwn, q1, q2, q3, q4⟩ := whole_w hr2 htv ⟨fun z => (by cases z), fun t z => (by cases z; rfl)⟩ hp
              refine ⟨_, rfl, _, rfl, wk, dx1, _, rfl, e2, wf_no _ _ _, _, rfl, wk, wa, G, M, s, (min (K53M.tms G s m) ((left : Int) / (nr : Int))), nr, rfl, hW2, hr2, fun H9 E9 hW9 => ?_⟩
              rw [hwn] at hW9
              have e9 : ((left - wn * nr : Nat) : Int) = (left : Int) - (min (K53M.tms G s m) ((left : Int) / (nr : Int))) * (nr : Int) := by
                rw [hwn, Int.natCast_sub q4, Int.natCast_mul]
              have hw1 : 1 ≤ wn * nr := Nat.mul_le_mul q1 hpos
              refine ⟨_, _, rfl, rfl, left - wn * nr, by omega, _, left - wn * nr, seen, rf0, cut, some (.ref x), (some (.int (K53M.tms G s m))), some (.int (min (K53M.tms G s m) ((left : Int) / (nr : Int)))), ?_, rfl, S2.trans E9, hW9, E9.of nsw hsd2, I.jump o hr2 (fun _ => q2) q3 q4, hSO⟩
              rw [e9]
              rfl
            · -- is_refused = is_refused or walk.is_refused()
              refine ⟨_, rfl, _, rfl, ?_⟩
              cases rf0 with
              | true =>
                refine iteT ?_
                -- if walk.is_refused() and not is_cut
                refine ⟨_, rfl, wk, dx1, _, rfl, e2, wf_no _ _ _, wk, wa, G, M, s, rfl, hW2, _, rfl, ?_⟩
                cases hR : K53M.isRef G s with
                | false =>
                  refine iteF ?_
                  -- if left > 0: walk.go_on(); left -= 1
                  have ce : ((left : Int) : Int) = ((left : Nat) : Int) := rfl
                  refine ⟨_, rfl, _, _, rfl, rfl, _, rfl, itD (fun hpl => ?_) fun hpl => ?_⟩
                  · have hpl0 : (0 : Int) < (left : Int) := hpl
                    have hpl : 0 < left := Int.ofNat_lt.mp (ce ▸ hpl0)
                    refine ⟨_, rfl, wk, dx1, _, rfl, e2, wf_no _ _ _, wk, wa, G, M, s, rfl, hW2, hE, fun H9 E9 hW9 => ?_⟩
                    have ce1 : ((left - 1 : Nat) : Int) = (left : Int) - 1 := by rw [ce]; omega
                    refine ⟨_, rfl, _, _, rfl, rfl, left - 1, (by omega), K53M.step G s, left - 1, seen, true, cut, (some (.ref x)), (some (.int (K53M.tms G s m))), (some (.int (min (K53M.tms G s m) ((left : Int) / (nr : Int))))), ?_, rfl, S2.trans E9, hW9, E9.of nsw hsd2, (I.stepG o hlp), hSO⟩
                    rw [ce1]
                    rfl
                  · have hpl : ¬ (0 : Int) < (left : Int) := hpl
                    exact absurd (Int.ofNat_lt.mpr hlp) hpl
                | true =>
                  refine iteT ⟨_, rfl, _, rfl, ?_⟩
                  cases cut with
                  | true =>
                    refine iteF ?_
                    -- if left > 0: walk.go_on(); left -= 1
                    have ce : ((left : Int) : Int) = ((left : Nat) : Int) := rfl
                    refine ⟨_, rfl, _, _, rfl, rfl, _, rfl, itD (fun hpl => ?_) fun hpl => ?_⟩
                    · have hpl0 : (0 : Int) < (left : Int) := hpl
                      have hpl : 0 < left := Int.ofNat_lt.mp (ce ▸ hpl0)
                      refine ⟨_, rfl, wk, dx1, _, rfl, e2, wf_no _ _ _, wk, wa, G, M, s, rfl, hW2, hE, fun H9 E9 hW9 => ?_⟩
                      have ce1 : ((left - 1 : Nat) : Int) = (left : Int) - 1 := by rw [ce]; omega
                      refine ⟨_, rfl, _, _, rfl, rfl, left - 1, (by omega), K53M.step G s, left - 1, seen, true, true, (some (.ref x)), (some (.int (K53M.tms G s m))), (some (.int (min (K53M.tms G s m) ((left : Int) / (nr : Int))))), ?_, rfl, S2.trans E9, hW9, E9.of nsw hsd2, (I.stepG o hlp), hSO⟩
                      rw [ce1]
                      rfl
                    · have hpl : ¬ (0 : Int) < (left : Int) := hpl
                      exact absurd (Int.ofNat_lt.mpr hlp) hpl
                  | false =>
                    refine iteT ?_
                    refine ⟨_, rfl, wk, dx1, _, rfl, e2, wf_no _ _ _, wk, wa, G, M, s, rfl, hW2, fun q hq => ?_⟩
                    have S5 := Same.new (o := HO.tup [.int (s.1 : Int), .int s.2]) hq
                    refine ⟨_, rfl, sd, _, rfl, DGet.t (k := ky s) (S5 _ _ hsd2) upd_same, _, rfl, ?_⟩
                    have hW5 := hW2.mono S5
                    have e5 := S5 _ _ e2
                    have hsd5 := S5 _ _ hsd2
                    cases hval : valV (enc seen) (ky s) with
                    | some v0 =>
                      obtain ⟨l0, hmem, rfl⟩ := enc_some hval
                      obtain ⟨hl0, I'⟩ := I.cut o hmem
                      refine iteT ?_
                      -- left, is_cut = left % (seen[walk.spot()] - left), True
                      refine ⟨_, rfl, _, rfl, _, rfl, wk, dx1, _, rfl, e5, wf_no _ _ _, wk, wa, G, M, s, rfl, hW5, fun q2 hq2 => ?_⟩
                      have S6 := Same.new (o := HO.tup [.int (s.1 : Int), .int s.2]) hq2
                      have hg := DGet.t (k := ky s) (S6 _ _ hsd5) (upd_same (a := q2))
                      rw [hval] at hg
                      refine ⟨sd, _, rfl, hg, _, rfl, _, _, rfl, rfl, _, _, rfl, rfl, by omega, _, _, rfl, ?_⟩
                      have hmod : (left : Int) % ((l0 : Int) - (left : Int)) = ((left % (l0 - left) : Nat) : Int) := by
                        rw [Int.natCast_emod, Int.natCast_sub (Nat.le_of_lt hl0)]
                      have hml : left % (l0 - left) ≤ left := Nat.mod_le _ _
                      generalize left % (l0 - left) = L2 at hml I' hmod
                      -- if left > 0: walk.go_on(); left -= 1
                      have ce : (((left : Int) % ((l0 : Int) - (left : Int))) : Int) = ((L2 : Nat) : Int) := hmod
                      refine ⟨_, rfl, _, _, rfl, rfl, _, rfl, itD (fun hpl => ?_) fun hpl => ?_⟩
                      · have hpl0 : (0 : Int) < ((left : Int) % ((l0 : Int) - (left : Int))) := hpl
                        have hpl : 0 < L2 := Int.ofNat_lt.mp (ce ▸ hpl0)
                        refine ⟨_, rfl, wk, dx1, _, rfl, (S6 _ _ e5), wf_no _ _ _, wk, wa, G, M, s, rfl, (hW5.mono S6), hE, fun H9 E9 hW9 => ?_⟩
                        have ce1 : ((L2 - 1 : Nat) : Int) = ((left : Int) % ((l0 : Int) - (left : Int))) - 1 := by rw [ce]; omega
                        refine ⟨_, rfl, _, _, rfl, rfl, L2 - 1, (by omega), K53M.step G s, L2 - 1, seen, true, true, (some (.ref x)), (some (.int (K53M.tms G s m))), (some (.int (min (K53M.tms G s m) ((left : Int) / (nr : Int))))), ?_, rfl, (S2.trans (Same.e (S5.trans S6))).trans E9, hW9, E9.of nsw (S6 _ _ hsd5), (I'.stepG o hpl), hSO⟩
                        rw [ce1]
                        rfl
                      · have hpl : ¬ (0 : Int) < ((left : Int) % ((l0 : Int) - (left : Int))) := hpl
                        exact ⟨0, by omega, s, 0, seen, true, true, (some (.ref x)), (some (.int (K53M.tms G s m))), (some (.int (min (K53M.tms G s m) ((left : Int) / (nr : Int))))), (congrArg (fun z : Int => ([some (V.ref wk), some (V.int (n : Int)), some (V.int z), some (V.ref sd), some (V.bl true), some (V.bl true), (some (.ref x)), (some (.int (K53M.tms G s m))), (some (.int (min (K53M.tms G s m) ((left : Int) / (nr : Int)))))] : List (Option V))) (show ((left : Int) % ((l0 : Int) - (left : Int))) = ((0 : Nat) : Int) by omega)), rfl, S2.trans (Same.e (S5.trans S6)), hW5.mono S6, S6 _ _ hsd5, (by rw [show L2 = 0 by omega] at I'; exact I'), hSO⟩
                    | none =>
                      have hno := enc_none hval
                      refine iteF ?_
                      -- seen[walk.spot()] = left
                      refine ⟨_, rfl, _, rfl, _, rfl, wk, dx1, _, rfl, e5, wf_no _ _ _, wk, wa, G, M, s, rfl, hW5, fun q2 hq2 => ?_⟩
                      have S6 := Same.new (o := HO.tup [.int (s.1 : Int), .int s.2]) hq2
                      refine ⟨sd, _, rfl, DPut.t (k := ky s) (S6 _ _ hsd5) upd_same (by rw [enc_len]; have := hSO.len o; omega), ?_⟩
                      rw [enc_snoc hval]
                      generalize hH7 : upd (upd (upd H2 q (.tup [.int (s.1 : Int), .int s.2])) q2 (.tup [.int (s.1 : Int), .int s.2])) sd (.dT (enc (seen ++ [(s, left)]))) = H7
                      have hsd7 : H7 sd = some (.dT (enc (seen ++ [(s, left)]))) := by rw [← hH7, upd_same]
                      have E7 : SameE [sd] H2 H7 := SameE.to fun b u n e => by
                        rw [← hH7, upd_ne n]
                        exact S6 _ _ (S5 _ _ e)
                      have S7 : SameE [wk] H H7 := SameE.to fun b u n e => E7.of (fun z => by rw [z, hsd0] at e; cases e) (S2.of n e)
                      have hW7 : Wst cR cY cW H7 wk wa G M s := hW0.to S7 ⟨dx1, E7.of nsw.symm e2⟩ hW2.lt
                      -- if left > 0: walk.go_on(); left -= 1
                      have ce : ((left : Int) : Int) = ((left : Nat) : Int) := rfl
                      refine ⟨_, rfl, _, _, rfl, rfl, _, rfl, itD (fun hpl => ?_) fun hpl => ?_⟩
                      · have hpl0 : (0 : Int) < (left : Int) := hpl
                        have hpl : 0 < left := Int.ofNat_lt.mp (ce ▸ hpl0)
                        refine ⟨_, rfl, wk, dx1, _, rfl, (E7.of nsw.symm e2), wf_no _ _ _, wk, wa, G, M, s, rfl, hW7, hE, fun H9 E9 hW9 => ?_⟩
                        have ce1 : ((left - 1 : Nat) : Int) = (left : Int) - 1 := by rw [ce]; omega
                        refine ⟨_, rfl, _, _, rfl, rfl, left - 1, (by omega), K53M.step G s, left - 1, (seen ++ [(s, left)]), true, false, (some (.ref x)), (some (.int (K53M.tms G s m))), (some (.int (min (K53M.tms G s m) ((left : Int) / (nr : Int))))), ?_, rfl, S7.trans E9, hW9, E9.of nsw hsd7, (I.snoc o hlp), (hSO.snoc o hR hW.lt I.nn hno)⟩
                        rw [ce1]
                        rfl
                      · have hpl : ¬ (0 : Int) < (left : Int) := hpl
                        exact absurd (Int.ofNat_lt.mpr hlp) hpl
              | false =>
                refine iteF ?_
                refine ⟨_, rfl, wk, dx1, _, rfl, e2, wf_no _ _ _, wk, wa, G, M, s, rfl, hW2, ?_⟩
                -- if walk.is_refused() and not is_cut
                refine ⟨_, rfl, wk, dx1, _, rfl, e2, wf_no _ _ _, wk, wa, G, M, s, rfl, hW2, _, rfl, ?_⟩
                cases hR : K53M.isRef G s with
                | false =>
                  refine iteF ?_
                  -- if left > 0: walk.go_on(); left -= 1
                  have ce : ((left : Int) : Int) = ((left : Nat) : Int) := rfl
                  refine ⟨_, rfl, _, _, rfl, rfl, _, rfl, itD (fun hpl => ?_) fun hpl => ?_⟩
                  · have hpl0 : (0 : Int) < (left : Int) := hpl
                    have hpl : 0 < left := Int.ofNat_lt.mp (ce ▸ hpl0)
                    refine ⟨_, rfl, wk, dx1, _, rfl, e2, wf_no _ _ _, wk, wa, G, M, s, rfl, hW2, hE, fun H9 E9 hW9 => ?_⟩
                    have ce1 : ((left - 1 : Nat) : Int) = (left : Int) - 1 := by rw [ce]; omega
                    refine ⟨_, rfl, _, _, rfl, rfl, left - 1, (by omega), K53M.step G s, left - 1, seen, false, cut, (some (.ref x)), (some (.int (K53M.tms G s m))), (some (.int (min (K53M.tms G s m) ((left : Int) / (nr : Int))))), ?_, rfl, S2.trans E9, hW9, E9.of nsw hsd2, (I.stepG o hlp), hSO⟩
                    rw [ce1]
                    rfl
                  · have hpl : ¬ (0 : Int) < (left : Int) := hpl
                    exact absurd (Int.ofNat_lt.mpr hlp) hpl
                | true =>
                  refine iteT ⟨_, rfl, _, rfl, ?_⟩
                  cases cut with
                  | true =>
                    refine iteF ?_
                    -- if left > 0: walk.go_on(); left -= 1
                    have ce : ((left : Int) : Int) = ((left : Nat) : Int) := rfl
                    refine ⟨_, rfl, _, _, rfl, rfl, _, rfl, itD (fun hpl => ?_) fun hpl => ?_⟩
                    · have hpl0 : (0 : Int) < (left : Int) := hpl
                      have hpl : 0 < left := Int.ofNat_lt.mp (ce ▸ hpl0)
                      refine ⟨_, rfl, wk, dx1, _, rfl, e2, wf_no _ _ _, wk, wa, G, M, s, rfl, hW2, hE, fun H9 E9 hW9 => ?_⟩
                      have ce1 : ((left - 1 : Nat) : Int) = (left : Int) - 1 := by rw [ce]; omega
                      refine ⟨_, rfl, _, _, rfl, rfl, left - 1, (by omega), K53M.step G s, left - 1, seen, true, true, (some (.ref x)), (some (.int (K53M.tms G s m))), (some (.int (min (K53M.tms G s m) ((left : Int) / (nr : Int))))), ?_, rfl, S2.trans E9, hW9, E9.of nsw hsd2, (I.stepG o hlp), hSO⟩
                      rw [ce1]
                      rfl
                    · have hpl : ¬ (0 : Int) < (left : Int) := hpl
                      exact absurd (Int.ofNat_lt.mpr hlp) hpl
                  | false =>
                    refine iteT ?_
                    refine ⟨_, rfl, wk, dx1, _, rfl, e2, wf_no _ _ _, wk, wa, G, M, s, rfl, hW2, fun q hq => ?_⟩
                    have S5 := Same.new (o := HO.tup [.int (s.1 : Int), .int s.2]) hq
                    refine ⟨_, rfl, sd, _, rfl, DGet.t (k := ky s) (S5 _ _ hsd2) upd_same, _, rfl, ?_⟩
                    have hW5 := hW2.mono S5
                    have e5 := S5 _ _ e2
                    have hsd5 := S5 _ _ hsd2
                    cases hval : valV (enc seen) (ky s) with
                    | some v0 =>
                      obtain ⟨l0, hmem, rfl⟩ := enc_some hval
                      obtain ⟨hl0, I'⟩ := I.cut o hmem
                      refine iteT ?_
                      -- left, is_cut = left % (seen[walk.spot()] - left), True
                      refine ⟨_, rfl, _, rfl, _, rfl, wk, dx1, _, rfl, e5, wf_no _ _ _, wk, wa, G, M, s, rfl, hW5, fun q2 hq2 => ?_⟩
                      have S6 := Same.new (o := HO.tup [.int (s.1 : Int), .int s.2]) hq2
                      have hg := DGet.t (k := ky s) (S6 _ _ hsd5) (upd_same (a := q2))
                      rw [hval] at hg
                      refine ⟨sd, _, rfl, hg, _, rfl, _, _, rfl, rfl, _, _, rfl, rfl, by omega, _, _, rfl, ?_⟩
                      have hmod : (left : Int) % ((l0 : Int) - (left : Int)) = ((left % (l0 - left) : Nat) : Int) := by
                        rw [Int.natCast_emod, Int.natCast_sub (Nat.le_of_lt hl0)]
                      have hml : left % (l0 - left) ≤ left := Nat.mod_le _ _
                      generalize left % (l0 - left) = L2 at hml I' hmod
                      -- if left > 0: walk.go_on(); left -= 1
                      have ce : (((left : Int) % ((l0 : Int) - (left : Int))) : Int) = ((L2 : Nat) : Int) := hmod
                      refine ⟨_, rfl, _, _, rfl, rfl, _, rfl, itD (fun hpl => ?_) fun hpl => ?_⟩
                      · have hpl0 : (0 : Int) < ((left : Int) % ((l0 : Int) - (left : Int))) := hpl
                        have hpl : 0 < L2 := Int.ofNat_lt.mp (ce ▸ hpl0)
                        refine ⟨_, rfl, wk, dx1, _, rfl, (S6 _ _ e5), wf_no _ _ _, wk, wa, G, M, s, rfl, (hW5.mono S6), hE, fun H9 E9 hW9 => ?_⟩
                        have ce1 : ((L2 - 1 : Nat) : Int) = ((left : Int) % ((l0 : Int) - (left : Int))) - 1 := by rw [ce]; omega
                        refine ⟨_, rfl, _, _, rfl, rfl, L2 - 1, (by omega), K53M.step G s, L2 - 1, seen, true, true, (some (.ref x)), (some (.int (K53M.tms G s m))), (some (.int (min (K53M.tms G s m) ((left : Int) / (nr : Int))))), ?_, rfl, (S2.trans (Same.e (S5.trans S6))).trans E9, hW9, E9.of nsw (S6 _ _ hsd5), (I'.stepG o hpl), hSO⟩
                        rw [ce1]
                        rfl
                      · have hpl : ¬ (0 : Int) < ((left : Int) % ((l0 : Int) - (left : Int))) := hpl
                        exact ⟨0, by omega, s, 0, seen, true, true, (some (.ref x)), (some (.int (K53M.tms G s m))), (some (.int (min (K53M.tms G s m) ((left : Int) / (nr : Int))))), (congrArg (fun z : Int => ([some (V.ref wk), some (V.int (n : Int)), some (V.int z), some (V.ref sd), some (V.bl true), some (V.bl true), (some (.ref x)), (some (.int (K53M.tms G s m))), (some (.int (min (K53M.tms G s m) ((left : Int) / (nr : Int)))))] : List (Option V))) (show ((left : Int) % ((l0 : Int) - (left : Int))) = ((0 : Nat) : Int) by omega)), rfl, S2.trans (Same.e (S5.trans S6)), hW5.mono S6, S6 _ _ hsd5, (by rw [show L2 = 0 by omega] at I'; exact I'), hSO⟩
                    | none =>
                      have hno := enc_none hval
                      refine iteF ?_
                      -- seen[walk.spot()] = left
                      refine ⟨_, rfl, _, rfl, _, rfl, wk, dx1, _, rfl, e5, wf_no _ _ _, wk, wa, G, M, s, rfl, hW5, fun q2 hq2 => ?_⟩
                      have S6 := Same.new (o := HO.tup [.int (s.1 : Int), .int s.2]) hq2
                      refine ⟨sd, _, rfl, DPut.t (k := ky s) (S6 _ _ hsd5) upd_same (by rw [enc_len]; have := hSO.len o; omega), ?_⟩
                      rw [enc_snoc hval]
                      generalize hH7 : upd (upd (upd H2 q (.tup [.int (s.1 : Int), .int s.2])) q2 (.tup [.int (s.1 : Int), .int s.2])) sd (.dT (enc (seen ++ [(s, left)]))) = H7
                      have hsd7 : H7 sd = some (.dT (enc (seen ++ [(s, left)]))) := by rw [← hH7, upd_same]
                      have E7 : SameE [sd] H2 H7 := SameE.to fun b u n e => by
                        rw [← hH7, upd_ne n]
                        exact S6 _ _ (S5 _ _ e)
                      have S7 : SameE [wk] H H7 := SameE.to fun b u n e => E7.of (fun z => by rw [z, hsd0] at e; cases e) (S2.of n e)
                      have hW7 : Wst cR cY cW H7 wk wa G M s := hW0.to S7 ⟨dx1, E7.of nsw.symm e2⟩ hW2.lt
                      -- if left > 0: walk.go_on(); left -= 1
                      have ce : ((left : Int) : Int) = ((left : Nat) : Int) := rfl
                      refine ⟨_, rfl, _, _, rfl, rfl, _, rfl, itD (fun hpl => ?_) fun hpl => ?_⟩
                      · have hpl0 : (0 : Int) < (left : Int) := hpl
                        have hpl : 0 < left := Int.ofNat_lt.mp (ce ▸ hpl0)
                        refine ⟨_, rfl, wk, dx1, _, rfl, (E7.of nsw.symm e2), wf_no _ _ _, wk, wa, G, M, s, rfl, hW7, hE, fun H9 E9 hW9 => ?_⟩
                        have ce1 : ((left - 1 : Nat) : Int) = (left : Int) - 1 := by rw [ce]; omega
                        refine ⟨_, rfl, _, _, rfl, rfl, left - 1, (by omega), K53M.step G s, left - 1, (seen ++ [(s, left)]), true, false, (some (.ref x)), (some (.int (K53M.tms G s m))), (some (.int (min (K53M.tms G s m) ((left : Int) / (nr : Int))))), ?_, rfl, S7.trans E9, hW9, E9.of nsw hsd7, (I.snoc o hlp), (hSO.snoc o hR hW.lt I.nn hno)⟩
                        rw [ce1]
                        rfl
                      · have hpl : ¬ (0 : Int) < (left : Int) := hpl
                        exact absurd (Int.ofNat_lt.mpr hlp) hpl
    · rw [show decide ((0 : Int) < (left : Int)) = false from decide_eq_false fun z => hlp (Int.ofNat_lt.mp z)]
      have hd := I.done (.inl (by omega))
      rw [hd] at hW
      exact iteF (iteF ⟨_, rfl, k _ _ hS hW⟩)
end
end K53
end

section
set_option Elab.async false
set_option linter.all false
set_option maxRecDepth 100000
set_option maxHeartbeats 4000000
/-! K53: walk_by, stands. -/
namespace K53
open PySem PySem.Spec PyProof.Rows L2
open K53M (Stp Pg S)
section
variable {P : Program} {w : World} {K : PySem.W.Frag} {mg : Str → Option Value} {base : Heap} {f : Addr} {fd : FuncData} {cR cY cW : Addr} {tN : Tok}
def spWB (cR cY cW : Addr) : Sp := fun vs H Q _ => ∃ (a : Addr) (G : Pg) (c : Int) (n : Nat), vs = [.ref a, .int c, .int (n : Int)] ∧ PgAt H a G ∧ K53M.Ok G (K53M.roundM G) ∧ 0 ≤ c ∧
  ∀ (H' : Hp) (wk wa : Addr), Same H H' → Wst cR cY cW H' wk wa G (K53M.roundM G) (K53M.runN G n (0, c)) → Q (.ref wk) H'
theorem ok_walk_by (T : Txt K mg cR cY cW tN) (F : FnP K "walk_by" "walk_by" s_walk_by f fd) {f1 fd1 f2 fd2 f3 fd3} (CWays : ConOk P w K mg base cY "Ways" 4 ["self", "program"] (spYInit cR cY) f1 fd1) (CWalk : ConOk P w K mg base cW "Walk" 1 ["self", "ways", "place", "counter"] (spWInit cW) f2 fd2)
    (C_go_far : CalOk P w K mg base "go_far" 4 ["walk", "count"] (spGF cR cY cW) f3 fd3) :
    FnOk P w K mg base CX0 6 f fd ["program", "number", "count"] (spWB cR cY cW) := by
  refine F.ok sc_walk_by (fun vs H Q E h => ?_) (fun cdv A outer s0 H vs Q E hr h => ?_)
  · obtain ⟨a, G, c, n, rfl, _⟩ := h
    rfl
  · obtain ⟨a, G, c, n, rfl, hG, o, c0, k⟩ := h
    refine ⟨_, PSs.nox (pss_cons (ps_set (i := 3) sc_walk_by.nd rfl (Or.inl rfl) (pe_make CWalk.mk_ CWalk.G (hr.mono (by decide)) rfl CWalk.m CWalk.b .nil pass0 (pa_cons (pe_make CWays.mk_ CWays.G (hr.mono (by decide)) rfl CWays.m CWays.b .nil pass0 (pa_cons (pv 0) pa_nil)) (pa_cons pe_int (pa_cons (pv 1) pa_nil)))))
      (pss_cons (ps_expr (pe_call C_go_far.G (hr.mono (by decide)) rfl C_go_far.m C_go_far.kp C_go_far.b .nil pass0 (pa_cons (pv 3) (pa_cons (pv 2) pa_nil))))
      (pss_one (ps_ret (pv 3))))), ?_⟩
    refine ⟨_, rfl, fun x dx nx nd ndx => ⟨x, dx, a, G, rfl, upd_same, hG.mono (Same.tups (Same.made0 nx nd ndx)), o, fun H1 E1 hY => ⟨rfl, ?_⟩⟩⟩
    have S1 := Same.make nx nd ndx E1
    refine ⟨_, rfl, fun wk dw nx2 nd2 ndx2 => ⟨wk, dw, x, 0, c, rfl, upd_same, ⟨rfl, ?_⟩⟩⟩
    have E2 : SameE [wk] (upd (upd H1 dw (.own wk)) wk (.ins cW dw [])) (upd (upd (upd H1 dw (.own wk)) wk (.ins cW dw [])) wk (.ins cW dw (wf x 0 c))) := SameE.to fun b u n e => by rw [upd_ne n]; exact e
    have S2 := Same.make nx2 nd2 ndx2 E2
    have hW : Wst cR cY cW (upd (upd (upd H1 dw (.own wk)) wk (.ins cW dw [])) wk (.ins cW dw (wf x 0 c))) wk x G (K53M.roundM G) (0, c) := ?_
    · refine ⟨_, rfl, _, rfl, wk, x, G, _, (0, c), n, rfl, hW, c0, fun H3 b E3 hW3 => ?_⟩
      have S3 : Same H H3 := fun b u e => by
        have e1 := S2 _ _ (S1 _ _ e)
        exact E3.of (fun z => by rw [z] at e; have := S1 _ _ e; rw [nx2] at this; cases this) e1
      exact ⟨_, rfl, k H3 wk x S3 hW3⟩
    · refine ⟨⟨dw, upd_same⟩, ?_, o, o.l1⟩
      exact hY.mono S2
def spStands : Sp := fun vs H Q _ => ∃ (a : Addr) (G : Pg) (c : Int) (n : Nat), vs = [.ref a, .int c, .int (n : Int)] ∧ PgAt H a G ∧ K53M.Ok G (K53M.roundM G) ∧ 0 ≤ c ∧
  ∀ (H' : Hp) (t : Addr), Same H H' → H' t = some (.tup [.int ((K53M.runN G n (0, c)).1 : Int), .int (K53M.runN G n (0, c)).2]) → Q (.ref t) H'
theorem ok_stands (T : Txt K mg cR cY cW tN) (F : FnP K "stands" "stands" s_stands f fd) {f1 fd1 f2 fd2} (C_walk_by : CalOk P w K mg base "walk_by" 6 ["program", "number", "count"] (spWB cR cY cW) f1 fd1) (M_spot : MetOk P w K mg base cW "spot" 1 ["self"] (spSpot cR cY cW) f2 fd2) :
    FnOk P w K mg base CX0 7 f fd ["program", "number", "count"] spStands := by
  refine F.ok sc_stands (fun vs H Q E h => ?_) (fun cdv A outer s0 H vs Q E hr h => ?_)
  · obtain ⟨a, G, c, n, rfl, _⟩ := h
    rfl
  · obtain ⟨a, G, c, n, rfl, hG, o, c0, k⟩ := h
    refine ⟨_, PSs.nox (pss_one (ps_ret (pe_meth0 (pe_call C_walk_by.G (hr.mono (by decide)) rfl C_walk_by.m C_walk_by.kp C_walk_by.b .nil pass0 (pa_cons (pv 0) (pa_cons (pv 1) (pa_cons (pv 2) pa_nil)))) T.clWalk M_spot.mt M_spot.G (hr.mono (by decide)) M_spot.b .nil pass0))), ?_⟩
    refine ⟨_, rfl, _, rfl, _, rfl, a, G, c, n, rfl, hG, o, c0, fun H1 wk wa S1 hW => ?_⟩
    obtain ⟨dx, e1⟩ := hW.at_
    exact ⟨wk, dx, _, rfl, e1, wf_no _ _ _, wk, wa, G, _, _, rfl, hW, fun p hp => k _ p (S1.trans (Same.new hp)) upd_same⟩
end
end K53
end

section
set_option Elab.async false
set_option linter.all false
set_option maxRecDepth 100000
set_option maxHeartbeats 4000000
/-! K53: the law's deck: draws. -/
namespace K53
open PySem PySem.Spec PyProof.Rows L2
section
variable {P : Program} {w : World} {K : PySem.W.Frag} {mg : Str → Option Value} {base : Heap} {f : Addr} {fd : FuncData} {cR cY cW : Addr} {tN : Tok}
/-- a deck -/
def DeckAt (H : Hp) (d l0 l1 : Addr) : Prop := (d ≠ l0 ∧ d ≠ l1 ∧ l0 ≠ l1) ∧ ∃ (xs ys : List Int) (sm k : Int), H d = some (.lst [.ref l0, .ref l1, .int sm, .int k]) ∧ H l0 = some (.lst (xs.map V.int)) ∧ H l1 = some (.lst (ys.map V.int)) ∧ xs.length < sizeLine ∧ 0 < ys.length
theorem DeckAt.mono {H H' : Hp} {d l0 l1 : Addr} (h : DeckAt H d l0 l1) (s : Same H H') : DeckAt H' d l0 l1 := by
  obtain ⟨n, xs, ys, sm, k, h1, h2, h3, h4⟩ := h
  exact ⟨n, xs, ys, sm, k, s _ _ h1, s _ _ h2, s _ _ h3, h4⟩
theorem DeckAt.ne {H : Hp} {d l0 l1 p : Addr} (h : DeckAt H d l0 l1) (hp : H p = none) : p ≠ d ∧ p ≠ l0 := by
  obtain ⟨n, xs, ys, sm, k, h1, h2, h3, h4⟩ := h
  exact ⟨(ne_of_none h1 hp).symm, (ne_of_none h2 hp).symm⟩
/-- the deck was drawn from: all else stands -/
structure Drw (d l0 l1 : Addr) (H H' : Hp) : Prop where
  e : SameE [d, l0] H H'
  k : DeckAt H' d l0 l1
theorem Drw.of {H H' : Hp} {d l0 l1 p : Addr} {o : HO} (h : Drw d l0 l1 H H') (n : p ≠ d ∧ p ≠ l0) (e : H p = some o) : H' p = some o := h.e p o (fun z => by
  rcases List.mem_cons.mp z with z | z
  · exact n.1 z
  · exact n.2 (List.mem_singleton.mp z)) e
theorem Drw.to {H H' : Hp} {d l0 l1 : Addr} (h : ∀ p o, p ≠ d → p ≠ l0 → H p = some o → H' p = some o) (k : DeckAt H' d l0 l1) : Drw d l0 l1 H H' :=
  ⟨fun p o n e => h p o (fun z => n (by rw [z]; simp)) (fun z => n (by rw [z]; simp)) e, k⟩
theorem Drw.refl {H : Hp} {d l0 l1 : Addr} (h : DeckAt H d l0 l1) : Drw d l0 l1 H H := ⟨SameE.refl _ _, h⟩
theorem Drw.same {H H' : Hp} {d l0 l1 : Addr} (h : DeckAt H d l0 l1) (s : Same H H') : Drw d l0 l1 H H' := ⟨Same.e s, h.mono s⟩
theorem Drw.trans {H H1 H2 : Hp} {d l0 l1 : Addr} (a : Drw d l0 l1 H H1) (b : Drw d l0 l1 H1 H2) : Drw d l0 l1 H H2 := ⟨a.e.trans b.e, b.k⟩
theorem Drw.thn {H H1 H2 : Hp} {d l0 l1 : Addr} (a : Drw d l0 l1 H H1) (b : Same H1 H2) : Drw d l0 l1 H H2 := a.trans (Drw.same a.k b)
theorem Drw.tups {H H' : Hp} {d l0 l1 : Addr} (h : DeckAt H d l0 l1) (x : Drw d l0 l1 H H') : Tups H H' := fun p xs e => by
  obtain ⟨n, _, _, _, _, h1, h2, _⟩ := h
  exact x.of ⟨fun z => (by rw [z, h1] at e; cases e), fun z => (by rw [z, h2] at e; cases e)⟩ e
/-- a thing made after the first draw is written -/
theorem Drw.put {H H1 : Hp} {d l0 l1 p : Addr} {o : HO} (D : Drw d l0 l1 H H1) (h : DeckAt H d l0 l1) (hp : H p = none) : Drw d l0 l1 H (upd H1 p o) := by
  obtain ⟨n, xs, ys, sm, k, h1, h2, h3, h4⟩ := h
  obtain ⟨_, xs', ys', sm', k', k1, k2, k3, k4⟩ := D.k
  refine ⟨fun b u m e => ?_, n, xs', ys', sm', k', ?_, ?_, ?_, k4⟩
  · rw [upd_ne (ne_of_none e hp)]
    exact D.e b u m e
  · rw [upd_ne (ne_of_none h1 hp)]
    exact k1
  · rw [upd_ne (ne_of_none h2 hp)]
    exact k2
  · rw [upd_ne (ne_of_none h3 hp)]
    exact k3
theorem dpInts {H : Hp} : ∀ xs : List Int, DpAll K H (xs.map V.int) (xs.map PyData.int)
  | [] => .nil
  | x :: xs => .cons (.int x) (dpInts xs)
theorem neInts : ∀ xs : List Int, (!PyData.eqv (.list (xs.map PyData.int)) (.list [])) = decide (xs ≠ [])
  | [] => rfl
  | x :: xs => rfl
def spDraw : Sp := fun vs H Q _ => ∃ (d l0 l1 : Addr) (many : Int), vs = [.ref d, .int many] ∧ DeckAt H d l0 l1 ∧ 0 < many ∧ many < 1073741824 ∧ ∀ (H' : Hp) (i : Int), Drw d l0 l1 H H' → 0 ≤ i → i < many → Q (.int i) H'
theorem ok_law_draw (T : Txt K mg cR cY cW tN) (F : FnP K "_law_draw" "_law_draw" s_law_draw f fd) : FnOk P w K mg base CX0 1 f fd ["_law_deck_here", "_law_many"] spDraw := by
  refine F.ok sc_law_draw (fun vs H Q E h => ?_) (fun cdv A outer s0 H vs Q E hr h => ?_)
  · obtain ⟨d, l0, l1, many, rfl, _⟩ := h
    rfl
  · obtain ⟨d, l0, l1, many, rfl, hD, hm0, hm1, k⟩ := h
    refine ⟨_, PSs.nox (pss_cons (ps_if (pt_cmpR (op_neD hr.units) (pe_ix ix_list (pv 0) pe_int (fun _ _ => rfl)) (pe_lst pa_nil) (nomark _)) (pss_cons (ps_set (i := 2) sc_law_draw.nd rfl (Or.inl rfl) (pe_callTy call_int1 (by rfl) T.int_ (by decide +kernel) (pa_cons (pe_bm0 PySem.F.plainAttrs_list PySem.F.slot_list_pop PySem.F.type_list_pop mt_pop (pe_ix ix_list (pv 0) pe_int (fun _ _ => rfl))) pa_nil)))
      (pss_cons (ps_if (pt_cmpR op_ge (pv 2) (pv 1) (nomark _)) (pss_one (ps_expr (pe_bm PySem.F.plainAttrs_list PySem.F.slot_list_append PySem.F.type_list_append mt_append (pe_ix ix_list (pv 0) pe_int (fun _ _ => rfl)) (pa_cons (pe_op op_fdiv (pv 2) (pv 1)) pa_nil)))) pss_nil)
      (pss_one (ps_ret (pe_op op_mod (pe_callTy call_int1 (by rfl) T.int_ (by decide +kernel) (pa_cons (pv 2) pa_nil)) (pv 1)))))) pss_nil)
      (pss_cons (ps_asg (pe_op op_add (pe_ix ix_list (pv 0) pe_int (fun _ _ => rfl)) pe_int) (pg_sub (pv 0) pe_int set_list))
      (pss_cons (ps_set (i := 3) sc_law_draw.nd rfl (Or.inl rfl) (pe_ix ix_list (pe_ix ix_list (pv 0) pe_int (fun _ _ => rfl)) (pe_op op_mod (pe_callTy call_int1 (by rfl) T.int_ (by decide +kernel) (pa_cons (pe_ix ix_list (pv 0) pe_int (fun _ _ => rfl)) pa_nil)) (pe_callB call_len_seq (by rfl) T.len_ (by decide +kernel) (pa_cons (pe_ix ix_list (pv 0) pe_int (fun _ _ => rfl)) pa_nil))) (fun _ _ => rfl)))
      (pss_cons (ps_set (i := 4) sc_law_draw.nd rfl (Or.inl rfl) (pe_op op_mod (pe_callTy call_int1 (by rfl) T.int_ (by decide +kernel) (pa_cons (pe_op op_add (pe_op op_add (pv 3) (pe_op op_mul pe_int (pe_ix ix_list (pv 0) pe_int (fun _ _ => rfl)))) (pe_op op_mul pe_int (pe_ix ix_list (pv 0) pe_int (fun _ _ => rfl)))) pa_nil)) pe_int))
      (pss_cons (ps_set (i := 4) sc_law_draw.nd rfl (Or.inl rfl) (pe_op op_mod (pe_callTy call_int1 (by rfl) T.int_ (by decide +kernel) (pa_cons (pe_op op_add (pe_op op_add (pe_op op_mul (pv 4) (pv 4)) (pe_op op_mul pe_int (pe_ix ix_list (pv 0) pe_int (fun _ _ => rfl)))) (pe_ix ix_list (pv 0) pe_int (fun _ _ => rfl))) pa_nil)) pe_int))
      (pss_one (ps_ret (pe_op op_mod (pe_op op_fdiv (pe_op op_mod (pe_callTy call_int1 (by rfl) T.int_ (by decide +kernel) (pa_cons (pe_op op_add (pe_op op_mul (pv 4) (pv 4)) (pv 3)) pa_nil)) pe_int) pe_int) (pv 1))))))))), ?_⟩
    obtain ⟨⟨n1, n2, n3⟩, xs, ys, sm, kk, hd, h0, h1, hx, hy⟩ := id hD
    refine ⟨_, rfl, d, _, _, _, rfl, rfl, SqL.of hd, atI0, by decide, fun p hp => ?_⟩
    have S1 : Same H (upd H p (.lst [])) := Same.new hp
    refine ⟨_, _, .lst (SqL.of (S1 _ _ h0)) (dpInts xs), .lst (SqL.of upd_same) .nil, PySem.W.shaped_ints xs, rfl, _, rfl, ?_⟩
    rw [neInts]
    refine itD (fun hne => ?_) fun hne => ?_
    · obtain ⟨zs, y, rfl⟩ : ∃ zs y, xs = zs ++ [y] := ⟨xs.dropLast, xs.getLast hne, (List.dropLast_concat_getLast hne).symm⟩
      have hd1 := S1 _ _ hd
      have h01 := S1 _ _ h0
      have h11 := S1 _ _ h1
      refine ⟨_, rfl, d, _, _, _, rfl, rfl, SqL.of hd1, atI0, .inl ⟨rfl, _, SqL.of h01⟩, l0, _, .int y, rfl, rfl, h01, (by simp), .inl ⟨y, rfl, ?_⟩⟩
      rw [List.map_append, List.map_singleton, List.dropLast_concat]
      have hz : zs.length + 1 < sizeLine := by rwa [List.length_append] at hx
      refine ⟨_, rfl, _, rfl, _, _, rfl, rfl, _, rfl, itD (fun hge => ?_) fun hge => ?_⟩
      · have hd2 : upd (upd H p (.lst [])) l0 (.lst (zs.map V.int)) d = some (.lst [.ref l0, .ref l1, .int sm, .int kk]) := by
          rw [upd_ne n1]
          exact hd1
        refine ⟨_, rfl, d, _, _, _, rfl, rfl, SqL.of hd2, atI0, .inl ⟨rfl, _, SqL.of upd_same⟩, _, rfl, _, rfl, _, _, rfl, rfl, ⟨hm0, hm1⟩, l0, _, _, rfl, rfl, upd_same, by rw [List.length_map]; omega, ?_⟩
        refine ⟨_, rfl, .inl ⟨y, rfl, _, rfl, y, many, rfl, rfl, hm0, k _ _ (Drw.to (fun q o a1 a2 e => ?_) ⟨⟨n1, n2, n3⟩, zs ++ [y / many], ys, sm, kk, ?_, ?_, ?_, ?_, hy⟩) (Int.emod_nonneg _ (by omega)) (Int.emod_lt_of_pos _ hm0)⟩⟩
        · rw [upd_ne a2, upd_ne a2]
          exact S1 _ _ e
        · rw [upd_ne n1, upd_ne n1]
          exact hd1
        · rw [upd_same, List.map_append]
          rfl
        · rw [upd_ne n3.symm, upd_ne n3.symm]
          exact h11
        · rw [List.length_append]
          exact hz
      · refine ⟨_, rfl, .inl ⟨y, rfl, _, rfl, y, many, rfl, rfl, hm0, k _ _ (Drw.to (fun q o a1 a2 e => ?_) ⟨⟨n1, n2, n3⟩, zs, ys, sm, kk, ?_, upd_same, ?_, by omega, hy⟩) (Int.emod_nonneg _ (by omega)) (Int.emod_lt_of_pos _ hm0)⟩⟩
        · rw [upd_ne a2]
          exact S1 _ _ e
        · rw [upd_ne n1]
          exact hd1
        · rw [upd_ne n3.symm]
          exact h11
    · have hd1 := S1 _ _ hd
      have h01 := S1 _ _ h0
      have h11 := S1 _ _ h1
      refine ⟨_, rfl, d, _, _, _, rfl, rfl, SqL.of hd1, atI3, _, _, rfl, rfl, _, rfl, d, _, _, 3, rfl, rfl, hd1, rfl, ?_⟩
      generalize hH2 : upd (upd H p (.lst [])) d _ = H2
      have hd2 : H2 d = some (.lst [.ref l0, .ref l1, .int sm, .int (kk + 1)]) := by rw [← hH2, upd_same]; rfl
      have h02 : H2 l0 = some (.lst (xs.map V.int)) := by rw [← hH2, upd_ne n1.symm]; exact h01
      have h12 : H2 l1 = some (.lst (ys.map V.int)) := by rw [← hH2, upd_ne n2.symm]; exact h11
      have D2 : Drw d l0 l1 H H2 := Drw.to (fun q o a1 a2 e => by rw [← hH2, upd_ne a1]; exact S1 _ _ e) ⟨⟨n1, n2, n3⟩, xs, ys, sm, kk + 1, hd2, h02, h12, hx, hy⟩
      have hyi : (0 : Int) < (ys.length : Int) := by omega
      -- cell = deck[1][int(deck[3]) % len(deck[1])]
      have hix : ∃ c : Int, atI (ys.map V.int) ((kk + 1) % ((ys.map V.int).length : Int)) = some (.int c) := by
        have h1 := Int.emod_nonneg (kk + 1) (show (ys.length : Int) ≠ 0 by omega)
        have h2 := Int.emod_lt_of_pos (kk + 1) hyi
        rw [List.length_map]
        have hj : ((kk + 1) % (ys.length : Int)).toNat < ys.length := by omega
        refine ⟨ys[((kk + 1) % (ys.length : Int)).toNat], ?_⟩
        have e : (kk + 1) % (ys.length : Int) = ((((kk + 1) % (ys.length : Int)).toNat : Nat) : Int) := by omega
        refine (congrArg (atI (ys.map V.int)) e).trans (atI_nat ?_)
        rw [List.getElem?_map, List.getElem?_eq_getElem hj]
        rfl
      obtain ⟨c, hc⟩ := hix
      have gd3 : SqL K H2 d [.ref l0, .ref l1, .int sm, .int (kk + 1)] := SqL.of hd2
      refine ⟨_, rfl, d, _, _, _, rfl, rfl, gd3, atI1, _, rfl, d, _, _, _, rfl, rfl, gd3, atI3, .inl ⟨_, rfl, _, rfl, d, _, _, _, rfl, rfl, gd3, atI1, l1, _, rfl, .inl (SqL.of h12), _, _, rfl, rfl, ?_, l1, _, _, _, rfl, rfl, SqL.of h12, hc, ?_⟩⟩
      · rw [List.length_map]
        exact hyi
      have c7 : CMul 7 sm := .inl ⟨by decide, by decide⟩
      have cB : CMul 2654435761 (kk + 1) := .inl ⟨by decide, by decide⟩
      have cC : CMul 40503 (kk + 1) := .inl ⟨by decide, by decide⟩
      -- mixed
      have p1 : (0 : Int) < 4294967291 := by decide
      have p2 : (0 : Int) < 4294967279 := by decide
      have p3 : (0 : Int) < 4294967231 := by decide
      have sq : ∀ (z b : Int), 0 < b → b ≤ 4294967291 → CMul (z % b) (z % b) := fun z b h1 h2 => .inl (by
        have := Int.emod_nonneg z (show b ≠ 0 by omega)
        have := Int.emod_lt_of_pos z h1
        constructor <;> omega)
      refine ⟨_, rfl, _, rfl, d, _, _, _, rfl, rfl, gd3, atI2, _, _, rfl, rfl, c7, _, _, rfl, rfl, _, rfl, d, _, _, _, rfl, rfl, gd3, atI3, _, _, rfl, rfl, cB, _, _, rfl, rfl, .inl ⟨_, rfl, _, _, rfl, rfl, p1, ?_⟩⟩
      refine ⟨_, rfl, _, rfl, _, _, rfl, rfl, sq _ _ p1 (by decide), _, rfl, d, _, _, _, rfl, rfl, gd3, atI3, _, _, rfl, rfl, cC, _, _, rfl, rfl, _, rfl, d, _, _, _, rfl, rfl, gd3, atI2, _, _, rfl, rfl, .inl ⟨_, rfl, _, _, rfl, rfl, p2, ?_⟩⟩
      exact ⟨_, rfl, _, rfl, _, _, rfl, rfl, sq _ _ p2 (by decide), _, rfl, _, _, rfl, rfl, .inl ⟨_, rfl, _, _, rfl, rfl, p3, _, _, rfl, rfl, ⟨by decide, by decide⟩, _, rfl, _, _, rfl, rfl, hm0, k _ _ D2 (Int.emod_nonneg _ (by omega)) (Int.emod_lt_of_pos _ hm0)⟩⟩
def spOne : Sp := fun vs H Q _ => ∃ (d l0 l1 a : Addr) (xs : List V), vs = [.ref d, .ref a] ∧ DeckAt H d l0 l1 ∧ H a = some (.lst xs) ∧ (a ≠ d ∧ a ≠ l0) ∧ 0 < xs.length ∧ xs.length < 1073741824 ∧ ∀ (H' : Hp) (v : V), Drw d l0 l1 H H' → v ∈ xs → Q v H'
theorem ok_law_one (T : Txt K mg cR cY cW tN) (F : FnP K "_law_one" "_law_one" s_law_one f fd) {f1 fd1} (C_law_draw : CalOk P w K mg base "_law_draw" 1 ["_law_deck_here", "_law_many"] spDraw f1 fd1) : FnOk P w K mg base CX0 2 f fd ["_law_deck_here", "_law_items"] spOne := by
  refine F.ok sc_law_one (fun vs H Q E h => ?_) (fun cdv A outer s0 H vs Q E hr h => ?_)
  · obtain ⟨d, l0, l1, a, xs, rfl, _⟩ := h
    rfl
  · obtain ⟨d, l0, l1, a, xs, rfl, hD, ha, hn, h0, h1, k⟩ := h
    refine ⟨_, PSs.nox (pss_one (ps_ret (pe_ix ix_list (pv 1) (pe_call C_law_draw.G (hr.mono (by decide)) rfl C_law_draw.m C_law_draw.kp C_law_draw.b .nil pass0 (pa_cons (pv 0) (pa_cons (pe_callB call_len_seq (by rfl) T.len_ (by decide +kernel) (pa_cons (pv 1) pa_nil)) pa_nil))) (fun _ _ => rfl)))), ?_⟩
    refine ⟨_, rfl, _, rfl, _, rfl, a, xs, rfl, .inl (SqL.of ha), d, l0, l1, _, rfl, hD, by omega, by omega, fun H1 i D1 i0 i1 => ?_⟩
    have hj : i.toNat < xs.length := by omega
    have e : i = ((i.toNat : Nat) : Int) := by omega
    exact ⟨a, xs, i, xs[i.toNat], rfl, rfl, SqL.of (D1.of hn ha), (congrArg (atI xs) e).trans (atI_nat (List.getElem?_eq_getElem hj)), k _ _ D1 (List.getElem_mem hj)⟩
def spFar : Sp := fun vs H Q _ => ∃ (d l0 l1 : Addr) (many : Int), vs = [.ref d, .int many] ∧ DeckAt H d l0 l1 ∧ 0 < many ∧ ∀ (H' : Hp) (i : Int), Drw d l0 l1 H H' → 0 ≤ i → i < many → Q (.int i) H'
theorem ok_law_far (T : Txt K mg cR cY cW tN) (F : FnP K "_law_far" "_law_far" s_law_far f fd) {f1 fd1} (C_law_draw : CalOk P w K mg base "_law_draw" 1 ["_law_deck_here", "_law_many"] spDraw f1 fd1) : FnOk P w K mg base CX0 2 f fd ["_law_deck_here", "_law_many"] spFar := by
  refine F.ok sc_law_far (fun vs H Q E h => ?_) (fun cdv A outer s0 H vs Q E hr h => ?_)
  · obtain ⟨d, l0, l1, many, rfl, _⟩ := h
    rfl
  · obtain ⟨d, l0, l1, many, rfl, hD, hm0, k⟩ := h
    refine ⟨_, PSs.nox (pss_cons (ps_set (i := 2) sc_law_far.nd rfl (Or.inl rfl) pe_int)
      (pss_cons (ps_for PassesOwn.never rfl (pi_range1 rfl T.range_ (pa_cons pe_int pa_nil)) (pg_name (i := 3) sc_law_far.nd rfl (Or.inl rfl)) (pss_one (ps_set (i := 2) sc_law_far.nd rfl (Or.inl rfl) (pe_op op_add (pe_op op_mul (pv 2) pe_int) (pe_call C_law_draw.G (hr.mono (by decide)) rfl C_law_draw.m C_law_draw.kp C_law_draw.b .nil pass0 (pa_cons (pv 0) (pa_cons pe_int pa_nil)))))))
      (pss_one (ps_ret (pe_op op_mod (pe_callTy call_int1 (by rfl) T.int_ (by decide +kernel) (pa_cons (pv 2) pa_nil)) (pv 1)))))), ?_⟩
    refine ⟨7, rfl, by decide, by decide, fun i m σ H' => m = 7 - i ∧ ∃ (x : Int) (v3 : Option V), σ = [some (.ref d), some (.int many), some (.int x), v3] ∧ Drw d l0 l1 H H', ⟨7, rfl, 0, none, rfl, Drw.refl hD⟩, ?_⟩
    rintro i m σ H1 ⟨rfl, x, v3, rfl, D1⟩
    by_cases hi : i < 7
    · refine .inr ⟨hi, _, fun _ _ z => z, fun y H2 hy => ?_⟩
      obtain ⟨rfl, rfl⟩ := hy
      refine ⟨_, rfl, _, _, rfl, rfl, .inr ⟨by decide, by decide⟩, _, rfl, d, l0, l1, 1009, rfl, D1.k, by decide, by decide, fun H2 j D2 _ _ => ⟨_, _, rfl, rfl, ?_⟩⟩
      exact ⟨7 - (i + 1), by omega, rfl, _, some _, rfl, D1.trans D2⟩
    · refine .inl ⟨Nat.le_of_not_lt hi, ?_⟩
      exact ⟨_, rfl, .inl ⟨_, rfl, _, rfl, _, _, rfl, rfl, hm0, k _ _ D1 (Int.emod_nonneg _ (by omega)) (Int.emod_lt_of_pos _ hm0)⟩⟩
def spNum : Sp := fun vs H Q _ => ∃ (d l0 l1 : Addr) (most : Int), vs = [.ref d, .int most] ∧ DeckAt H d l0 l1 ∧ 0 ≤ most ∧ ∀ (H' : Hp) (i : Int), Drw d l0 l1 H H' → 0 ≤ i → i ≤ most → Q (.int i) H'
theorem ok_law_number (T : Txt K mg cR cY cW tN) (F : FnP K "_law_number" "_law_number" s_law_number f fd) {f1 fd1 f2 fd2 f3 fd3} (C_law_draw : CalOk P w K mg base "_law_draw" 1 ["_law_deck_here", "_law_many"] spDraw f1 fd1) (C_law_one : CalOk P w K mg base "_law_one" 2 ["_law_deck_here", "_law_items"] spOne f2 fd2)
    (C_law_far : CalOk P w K mg base "_law_far" 2 ["_law_deck_here", "_law_many"] spFar f3 fd3) : FnOk P w K mg base CX0 3 f fd ["_law_deck_here", "_law_most"] spNum := by
  refine F.ok sc_law_number (fun vs H Q E h => ?_) (fun cdv A outer s0 H vs Q E hr h => ?_)
  · obtain ⟨d, l0, l1, most, rfl, _⟩ := h
    rfl
  · obtain ⟨d, l0, l1, most, rfl, hD, hm0, k⟩ := h
    refine ⟨_, PSs.nox (pss_cons (ps_set (i := 2) sc_law_number.nd rfl (Or.inl rfl) (pe_call C_law_far.G (hr.mono (by decide)) rfl C_law_far.m C_law_far.kp C_law_far.b .nil pass0 (pa_cons (pv 0) (pa_cons (pe_op op_add (pe_callB (call_min2 rfl) (by rfl) T.min_ (by decide +kernel) (pa_cons (pe_callTy call_int1 (by rfl) T.int_ (by decide +kernel) (pa_cons (pv 1) pa_nil)) (pa_cons (pe_call C_law_one.G (hr.mono (by decide)) rfl C_law_one.m C_law_one.kp C_law_one.b .nil pass0 (pa_cons (pv 0) (pa_cons (pe_lst (pa_cons pe_int (pa_cons pe_int (pa_cons pe_int (pa_cons pe_int (pa_cons (pe_op op_pow pe_int pe_int) (pa_cons (pv 1) pa_nil))))))) pa_nil))) pa_nil))) pe_int) pa_nil))))
      (pss_one (ps_ret (pe_ifExp (pt_cmpR op_eq (pe_call C_law_draw.G (hr.mono (by decide)) rfl C_law_draw.m C_law_draw.kp C_law_draw.b .nil pass0 (pa_cons (pv 0) (pa_cons pe_int pa_nil))) pe_int (nomark _)) (pe_op op_sub (pv 1) (pv 2)) (pv 2))))), ?_⟩
    refine ⟨_, rfl, _, rfl, .inl ⟨_, rfl, _, rfl, _, _, rfl, rfl, ⟨by decide, by decide, by decide⟩, _, rfl, (by show 6 ≤ sizeLine; decide), fun p hp => ?_⟩⟩
    have S1 := Same.new (o := HO.lst [.int 4, .int 20, .int 200, .int 3000, .int (10 ^ 6), .int most]) hp
    refine ⟨d, l0, l1, p, _, rfl, hD.mono S1, upd_same, hD.ne hp, by show 0 < 6; decide, by show 6 < 1073741824; decide, fun H1 v D1 hv => ?_⟩
    have hv2 : ∃ z : Int, v = .int z ∧ 0 ≤ z := by
      have hv3 : v ∈ [V.int 4, .int 20, .int 200, .int 3000, .int (10 ^ 6), .int most] := hv
      simp only [List.mem_cons, List.not_mem_nil, or_false] at hv3
      rcases hv3 with rfl | rfl | rfl | rfl | rfl | rfl
      · exact ⟨_, rfl, by decide⟩
      · exact ⟨_, rfl, by decide⟩
      · exact ⟨_, rfl, by decide⟩
      · exact ⟨_, rfl, by decide⟩
      · exact ⟨_, rfl, by decide⟩
      · exact ⟨_, rfl, hm0⟩
    obtain ⟨z, rfl, hz⟩ := hv2
    refine ⟨_, _, rfl, _, _, rfl, rfl, ?_⟩
    rw [min_if]
    have D1' : Drw d l0 l1 H H1 := (Drw.same hD S1).trans D1
    have m1 := Int.min_le_left most z
    have m2 : 0 ≤ min most z := by
      rw [Int.le_min]
      exact ⟨hm0, hz⟩
    refine ⟨d, l0, l1, _, rfl, D1.k, by omega, fun H2 i D2 i0 i1 => ?_⟩
    refine ⟨_, rfl, d, l0, l1, 5, rfl, D2.k, by decide, by decide, fun H3 j D3 j0 j1 => ⟨rfl, _, rfl, ?_⟩⟩
    have D := (D1'.trans D2).trans D3
    exact itD (fun _ => ⟨_, rfl, _, rfl, _, _, rfl, rfl, k _ _ D (by omega) (by omega)⟩) fun _ => ⟨_, rfl, k _ _ D i0 (by omega)⟩
end
end K53
end

section
set_option Elab.async false
set_option linter.all false
set_option maxRecDepth 100000
set_option maxHeartbeats 4000000
/-! K53: the law's mixed order. -/
namespace K53
open PySem PySem.Spec PyProof.Rows L2
section
variable {P : Program} {w : World} {K : PySem.W.Frag} {mg : Str → Option Value} {base : Heap} {f : Addr} {fd : FuncData} {cR cY cW : Addr} {tN : Tok}
theorem ix_nat {n : Nat} {i : Int} (h0 : 0 ≤ i) (h1 : i < n) : seqIndex? i n = some i.toNat := by
  refine (ixN_seq ?_).1
  unfold ixN
  rw [if_pos h0, if_pos h1]
theorem erase_perm {α : Type} : ∀ (l : List α) (k : Nat) (h : k < l.length), (l[k] :: l.eraseIdx k).Perm l
  | x :: l, 0, _ => .refl _
  | x :: l, k + 1, h => (List.Perm.swap x _ _).trans (.cons x (erase_perm l k (Nat.lt_of_succ_lt_succ h)))
def spMix : Sp := fun vs H Q _ => ∃ (d l0 l1 a : Addr) (xs : List V), vs = [.ref d, .ref a] ∧ DeckAt H d l0 l1 ∧ H a = some (.lst xs) ∧ xs.length < 1000000 ∧ ∀ (H' : Hp) (b : Addr) (ys : List V), Drw d l0 l1 H H' → H b = none → H' b = some (.lst ys) → ys.Perm xs → Q (.ref b) H'
theorem ok_law_mixed (T : Txt K mg cR cY cW tN) (F : FnP K "_law_mixed" "_law_mixed" s_law_mixed f fd) {f1 fd1} (C_law_draw : CalOk P w K mg base "_law_draw" 1 ["_law_deck_here", "_law_many"] spDraw f1 fd1) : FnOk P w K mg base CX0 2 f fd ["_law_deck_here", "_law_items"] spMix := by
  refine F.ok sc_law_mixed (fun vs H Q E h => ?_) (fun cdv A outer s0 H vs Q E hr h => ?_)
  · obtain ⟨d, l0, l1, a, xs, rfl, _⟩ := h
    rfl
  · obtain ⟨d, l0, l1, a, xs, rfl, hD, ha, hx, k⟩ := h
    refine ⟨_, PSs.nox (pss_cons (ps_par (i := 2) (j := 3) (by rfl) sc_law_mixed.nd rfl rfl (by decide) rfl rfl (pa_cons (pe_callTy call_list_of (by rfl) T.list_ (by decide +kernel) (pa_cons (pv 1) pa_nil)) (pa_cons (pe_lst pa_nil) pa_nil)) (by rfl))
      (pss_cons (ps_for PassesOwn.never rfl (pi_range1 rfl T.range_ (pa_cons (pe_callB call_len_seq (by rfl) T.len_ (by decide +kernel) (pa_cons (pv 1) pa_nil)) pa_nil)) (pg_name (i := 4) sc_law_mixed.nd rfl (Or.inl rfl)) (pss_one (ps_expr (pe_bm PySem.F.plainAttrs_list PySem.F.slot_list_append PySem.F.type_list_append mt_append (pv 3) (pa_cons (pe_bm PySem.F.plainAttrs_list PySem.F.slot_list_pop PySem.F.type_list_pop mt_popAt (pv 2) (pa_cons (pe_call C_law_draw.G (hr.mono (by decide)) rfl C_law_draw.m C_law_draw.kp C_law_draw.b .nil pass0 (pa_cons (pv 0) (pa_cons (pe_callB call_len_seq (by rfl) T.len_ (by decide +kernel) (pa_cons (pv 2) pa_nil)) pa_nil))) pa_nil)) pa_nil)))))
      (pss_one (ps_ret (pv 3))))), ?_⟩
    have big : 1000000 < sizeLine := by decide
    refine ⟨_, rfl, a, xs, rfl, .inl (SqL.of ha), fun L hL => ⟨by decide, fun Fo hF => ⟨_, _, rfl, ?_⟩⟩⟩
    have S1 : Same H (upd H L (.lst xs)) := Same.new hL
    have S2 : Same (upd H L (.lst xs)) (upd (upd H L (.lst xs)) Fo (.lst [])) := Same.new hF
    have nLF : L ≠ Fo := ne_of_none upd_same hF
    have hL2 := hD.ne hL
    have hF2 := (hD.mono S1).ne hF
    have hFn : H Fo = none := by rwa [upd_ne nLF.symm] at hF
    have ea := S2 _ _ (S1 _ _ ha)
    refine ⟨_, rfl, a, _, rfl, .inl (SqL.of ea), _, rfl, by omega, by omega, fun i m σ H' => m = xs.length - i ∧ ∃ (l g : List V) (v4 : Option V), σ = [some (.ref d), some (.ref a), some (.ref L), some (.ref Fo), v4] ∧ Drw d l0 l1 H H' ∧ H' L = some (.lst l) ∧ H' Fo = some (.lst g) ∧ l.length = m ∧ i ≤ xs.length ∧ (l ++ g).Perm xs,
      ⟨xs.length, rfl, xs, [], none, rfl, (Drw.same hD S1).thn S2, S2 _ _ upd_same, upd_same, rfl, Nat.zero_le _, by rw [List.append_nil]⟩, ?_⟩
    rintro i m σ H1 ⟨rfl, l, g, v4, rfl, D1, h1, h2, hl, hi0, hp⟩
    by_cases hi : i < xs.length
    · refine .inr ⟨by show i < ((xs.length : Nat) : Int).toNat; omega, _, fun _ _ z => z, fun y H2 hy => ?_⟩
      obtain ⟨rfl, rfl⟩ := hy
      refine ⟨_, rfl, .inl ⟨rfl, _, SqL.of h2⟩, _, rfl, .inl ⟨rfl, _, SqL.of h1⟩, _, rfl, _, rfl, L, l, rfl, .inl (SqL.of h1), d, l0, l1, _, rfl, D1.k, by omega, by omega, fun H2 j D2 j0 j1 => ?_⟩
      have hj : j.toNat < l.length := by omega
      have h12 := D2.of hL2 h1
      have h22 := D2.of hF2 h2
      have hlg : l.length + g.length = xs.length := by
        rw [← List.length_append]
        exact hp.length_eq
      refine ⟨L, l, j, j.toNat, l[j.toNat], rfl, rfl, h12, by omega, by omega, ix_nat j0 j1, List.getElem?_eq_getElem hj, ?_⟩
      refine ⟨Fo, g, _, rfl, rfl, by rw [upd_ne nLF.symm]; exact h22, by omega, ?_⟩
      refine ⟨xs.length - (i + 1), by omega, rfl, l.eraseIdx j.toNat, g ++ [l[j.toNat]], some _, rfl, ((D1.trans D2).put hD hL).put hD hFn, ?_, upd_same, ?_, hi, ?_⟩
      · rw [upd_ne nLF, upd_same]
      · rw [List.length_eraseIdx_of_lt hj]
        omega
      · refine List.Perm.trans ?_ hp
        refine List.Perm.trans ?_ (List.Perm.append_right g (erase_perm l _ hj))
        have e : l.eraseIdx j.toNat ++ (g ++ [l[j.toNat]]) = (l.eraseIdx j.toNat ++ g) ++ [l[j.toNat]] := (List.append_assoc ..).symm
        rw [e]
        exact List.perm_append_comm
    · refine .inl ⟨by show ((xs.length : Nat) : Int).toNat ≤ i; omega, ?_⟩
      have hl0 : l = [] := List.eq_nil_of_length_eq_zero (by omega)
      subst hl0
      exact ⟨_, rfl, k _ Fo g D1 hFn h2 hp⟩
end
end K53
end

section
set_option Elab.async false
set_option linter.all false
set_option maxRecDepth 100000
set_option maxHeartbeats 4000000
/-! K53: the law's deck is made. -/
namespace K53
open PySem PySem.Spec PyProof.Rows L2
section
variable {P : Program} {w : World} {K : PySem.W.Frag} {mg : Str → Option Value} {base : Heap} {f : Addr} {fd : FuncData} {cR cY cW : Addr} {tN : Tok}
def spDeck (K : PySem.W.Frag) : Sp := fun vs H Q _ => ∃ (a : Addr) (ns : List Int), vs = [.ref a] ∧ SqL K H a (ns.map V.int) ∧ ns.length ≤ 1000 ∧ (∀ H', Same H H' → SqL K H' a (ns.map V.int)) ∧ ∀ (H' : Hp) (d l0 l1 : Addr), Same H H' → DeckAt H' d l0 l1 → Q (.ref d) H'
theorem ok_law_deck (T : Txt K mg cR cY cW tN) (F : FnP K "_law_deck" "_law_deck" s_law_deck f fd) : FnOk P w K mg base CX0 1 f fd ["_law_script"] (spDeck K) := by
  refine F.ok sc_law_deck (fun vs H Q E h => ?_) (fun cdv A outer s0 H vs Q E hr h => ?_)
  · obtain ⟨a, ns, rfl, _⟩ := h
    rfl
  · obtain ⟨a, ns, rfl, hsq, hn, hmono, k⟩ := h
    refine ⟨_, PSs.nox (pss_cons (ps_setLc (i := 1) (own := [("_law_cell", 3)]) (by rfl) sc_law_deck.nd rfl rfl (sw_true rfl rfl rfl (by decide +kernel)) (pi_list (pv 0)) (blkOk_by (N := N_law_deck) (sc := defScope s_law_deck) (by decide +kernel)) (fun _ _ _ _ _ => (pg_name (i := 3) sc_law_deck.nd rfl (Or.inl rfl))) (fun _ _ _ _ _ => pts_nil) (fun _ _ _ _ _ => (pe_ifExp (pt_cmpR op_ge (pv 3) pe_int (nomark _)) (pe_op op_mul pe_int (pv 3)) (pe_op op_sub (pe_op op_sub pe_int (pe_op op_mul pe_int (pv 3))) pe_int))))
      (pss_cons (ps_setLc (i := 2) (own := [("_law_cell", 3)]) (by rfl) sc_law_deck.nd rfl rfl (sw_true rfl rfl rfl (by decide +kernel)) (pi_list (pv 1)) (blkOk_by (N := N_law_deck) (sc := defScope s_law_deck) (by decide +kernel)) (fun _ _ _ _ _ => (pg_name (i := 3) sc_law_deck.nd rfl (Or.inl rfl))) (fun _ _ _ _ _ => (pts_one (pt_cmpR op_ge (pv 3) (pe_op op_pow pe_int pe_int) (nomark _)))) (fun _ _ _ _ _ => (pe_op op_fdiv (pv 3) pe_int)))
      (pss_one (ps_ret (pe_lst (pa_cons (pe_revL (pv 2)) (pa_cons (pe_op op_cat (pv 1) (pe_lst (pa_cons (pe_op op_add pe_int (pe_callB call_len_seq (by rfl) T.len_ (by decide +kernel) (pa_cons (pv 1) pa_nil))) pa_nil))) (pa_cons (pe_callB (cr_sum rfl) (by rfl) T.sum_ (by decide +kernel) (pa_cons (pv 1) pa_nil)) (pa_cons pe_int pa_nil))))))))), ?_⟩
    have big : 1001 < sizeLine := by decide
    -- cells
    refine ⟨_, rfl, a, rfl, ⟨_, hsq⟩, fun C hC => ?_⟩
    refine lc_list (K := K) (a := a) (xs := ns.map V.int) (fun i H' => Same H H' ∧ ∃ acc : List Int, H' C = some (.lst (acc.map V.int)) ∧ acc.length = i) ⟨Same.new hC, [], upd_same, rfl⟩ (fun i H' _ e => hmono _ e.1) ?_ ?_
    · rintro i x H' hx ⟨S1, acc, h1, h2⟩
      obtain ⟨z, rfl⟩ : ∃ z : Int, x = .int z := by
        rw [List.getElem?_map] at hx
        cases hz : ns[i]? with
        | none => rw [hz] at hx; cases hx
        | some z => rw [hz] at hx; exact ⟨z, (Option.some.inj hx).symm⟩
      have hi : i < ns.length := by
        have := (List.getElem?_eq_some_iff.mp hx).1
        rwa [List.length_map] at this
      have fin : ∀ y : Int, ∃ acc' : List V, H' C = some (.lst acc') ∧ acc'.length < sizeLine ∧ (fun i H' => Same H H' ∧ ∃ acc : List Int, H' C = some (.lst (acc.map V.int)) ∧ acc.length = i) (i + 1) (upd H' C (.lst (acc' ++ [.int y]))) := fun y =>
        ⟨_, h1, by rw [List.length_map, h2]; omega, fun b u e => (by rw [upd_ne (ne_of_none e hC)]; exact S1 _ _ e), acc ++ [y], (by rw [upd_same, List.map_append]; rfl), (by rw [List.length_append, h2]; rfl)⟩
      refine ⟨rfl, ?_⟩
      refine ⟨_, rfl, _, _, rfl, rfl, _, rfl, itD (fun _ => ?_) fun _ => ?_⟩
      · exact ⟨_, rfl, _, _, rfl, rfl, .inl ⟨by decide, by decide⟩, fin _⟩
      · exact ⟨_, rfl, _, _, rfl, rfl, .inl ⟨by decide, by decide⟩, _, _, rfl, rfl, _, _, rfl, rfl, fin _⟩
    · rintro H1 ⟨S1, cs, hc, hcl⟩
      rw [List.length_map] at hcl
      -- great
      refine ⟨_, rfl, C, rfl, ⟨_, SqL.of hc⟩, fun G hG => ?_⟩
      refine lc_list (K := K) (a := C) (xs := cs.map V.int) (fun i H' => Same H1 H' ∧ ∃ acc : List Int, H' G = some (.lst (acc.map V.int)) ∧ acc.length ≤ i) ⟨Same.new hG, [], upd_same, Nat.le_refl _⟩ (fun i H' _ e => SqL.of (e.1 _ _ hc)) ?_ ?_
      · rintro i x H' hx ⟨S2, acc, h1, h2⟩
        obtain ⟨z, rfl⟩ : ∃ z : Int, x = .int z := by
          rw [List.getElem?_map] at hx
          cases hz : cs[i]? with
          | none => rw [hz] at hx; cases hx
          | some z => rw [hz] at hx; exact ⟨z, (Option.some.inj hx).symm⟩
        have hi : i < cs.length := by
          have := (List.getElem?_eq_some_iff.mp hx).1
          rwa [List.length_map] at this
        refine ⟨rfl, _, rfl, _, _, rfl, rfl, ⟨by decide, by decide, by decide⟩, _, _, rfl, rfl, _, rfl, itD (fun _ => ?_) fun _ => ?_⟩
        · exact ⟨_, rfl, _, _, rfl, rfl, ⟨by decide, by decide⟩, _, h1, by rw [List.length_map]; omega, fun b u e => (by rw [upd_ne (ne_of_none e hG)]; exact S2 _ _ e), acc ++ [z / 2], (by rw [upd_same, List.map_append]; rfl), (by rw [List.length_append]; show acc.length + 1 ≤ i + 1; omega)⟩
        · exact ⟨S2, acc, h1, by omega⟩
      · rintro H2 ⟨S2, gs, hg, hgl⟩
        rw [List.length_map] at hgl
        have hc2 := S2 _ _ hc
        -- the deck
        refine ⟨_, rfl, G, _, rfl, SqL.of hg, fun l0 e0 => ?_⟩
        have S3 : Same H2 (upd H2 l0 (.lst (gs.map V.int).reverse)) := Same.new e0
        have hc3 := S3 _ _ hc2
        refine ⟨_, rfl, _, rfl, C, _, rfl, .inl (SqL.of hc3), _, _, rfl, rfl, (by show 1 ≤ sizeLine; decide), fun o1 e1 => ?_⟩
        have S4 := Same.new (o := HO.lst [.int (90017 + ((cs.map V.int).length : Int))]) e1
        refine ⟨C, o1, _, _, rfl, rfl, S4 _ _ hc3, upd_same, by rw [List.length_map]; show cs.length + 1 ≤ sizeLine; omega, fun l1 e2 => ?_⟩
        have S5 := Same.new (o := HO.lst (cs.map V.int ++ [.int (90017 + ((cs.map V.int).length : Int))])) e2
        refine ⟨_, rfl, C, cs, rfl, SqL.of (S5 _ _ (S4 _ _ hc3)), (by show 4 ≤ sizeLine; decide), fun d e3 => ?_⟩
        have S6 := Same.new (o := HO.lst [.ref l0, .ref l1, .int cs.sum, .int 0]) e3
        have h0 : ∀ H', H' = upd (upd H2 l0 (.lst (gs.map V.int).reverse)) o1 (.lst [.int (90017 + ((cs.map V.int).length : Int))]) → H' l0 = some (.lst (gs.reverse.map V.int)) := fun H' e => by
          rw [e, S4 _ _ upd_same, List.map_reverse]
        have h0' := h0 _ rfl
        refine k _ d l0 l1 ((((S1.trans S2).trans S3).trans S4).trans (S5.trans S6)) ⟨⟨?_, ?_, ?_⟩, gs.reverse, cs ++ [90017 + ((cs.map V.int).length : Int)], cs.sum, 0, upd_same, S6 _ _ (S5 _ _ h0'), S6 _ _ (by rw [upd_same, List.map_append]; rfl), by rw [List.length_reverse]; omega, by rw [List.length_append]; show 0 < cs.length + 1; omega⟩
        · exact (ne_of_none (S5 _ _ h0') e3).symm
        · exact (ne_of_none upd_same e3).symm
        · exact ne_of_none h0' e2
end
end K53
end

section
set_option Elab.async false
set_option linter.all false
set_option maxRecDepth 100000
set_option maxHeartbeats 4000000
/-! K53: the law draws a step. -/
namespace K53
open PySem PySem.Spec PyProof.Rows L2
open K53M (Stp Pg S)
section
variable {P : Program} {w : World} {K : PySem.W.Frag} {mg : Str → Option Value} {base : Heap} {f : Addr} {fd : FuncData} {cR cY cW : Addr} {tN : Tok}
/-- a step of a program of L places, its rests by sizes out of ms -/
def StpG (L : Nat) (ms : List Nat) : Stp → Prop
  | .fin _ => True
  | .add k to => 1 ≤ k ∧ k ≤ 4 ∧ to < L
  | .take k to o => 1 ≤ k ∧ k ≤ 4 ∧ to < L ∧ o < L
  | .rest m tos => m ∈ ms ∧ tos.length = m ∧ ∀ t ∈ tos, t < L
theorem memInts {v : V} {xs : List Int} (h : v ∈ xs.map V.int) : ∃ z ∈ xs, v = .int z := by
  obtain ⟨z, h1, h2⟩ := List.mem_map.mp h
  exact ⟨z, h1, h2.symm⟩
theorem asNat {z : Int} (h : 0 ≤ z) : ∃ n : Nat, z = (n : Int) := ⟨z.toNat, by omega⟩
theorem natsInt (ms : List Nat) : (ms.map fun (m : Nat) => V.int (m : Int)) = (ms.map fun (m : Nat) => (m : Int)).map V.int := by
  rw [List.map_map]
  rfl
theorem memWord {v : V} (h : v ∈ [V.str "yes", V.str "no"]) : ∃ b : Bool, v = .str (wordS b) := by
  simp only [List.mem_cons, List.not_mem_nil, or_false] at h
  rcases h with rfl | rfl
  · exact ⟨true, rfl⟩
  · exact ⟨false, rfl⟩
theorem new2 {H : Hp} {b c : Addr} {o u : HO} (hb : H b = none) (hc : upd H b o c = none) : upd (upd H b o) c u b = some o := by
  rw [upd_ne (ne_of_none upd_same hc), upd_same]
def spSD : Sp := fun vs H Q _ => ∃ (d l0 l1 sz : Addr) (word : Str) (place many : Nat) (ms : List Nat), vs = [.ref d, .str word, .int (place : Int), .int (many : Int), .ref sz] ∧ DeckAt H d l0 l1 ∧ H sz = some (.lst (ms.map fun (m : Nat) => V.int (m : Int))) ∧ (sz ≠ d ∧ sz ≠ l0) ∧
  (∀ m ∈ ms, 2 ≤ m ∧ m ≤ 6) ∧ ms.length ≤ 6 ∧ place < many ∧ many ≤ 6 ∧ ∀ (H' : Hp) (b : Addr) (x : Stp), Drw d l0 l1 H H' → StpAt H' b x → StpG many ms x → Q (.ref b) H'
theorem ok_law_step_drawn (T : Txt K mg cR cY cW tN) (F : FnP K "_law_step_drawn" "_law_step_drawn" s_law_step_drawn f fd) {f1 fd1 f2 fd2} (C_law_draw : CalOk P w K mg base "_law_draw" 1 ["_law_deck_here", "_law_many"] spDraw f1 fd1) (C_law_one : CalOk P w K mg base "_law_one" 2 ["_law_deck_here", "_law_items"] spOne f2 fd2) :
    FnOk P w K mg base CX0 3 f fd ["_law_deck_here", "_law_word", "_law_place", "_law_many", "_law_sizes"] spSD := by
  refine F.ok sc_law_step_drawn (fun vs H Q E h => ?_) (fun cdv A outer s0 H vs Q E hr h => ?_)
  · obtain ⟨d, l0, l1, sz, word, place, many, ms, rfl, _⟩ := h
    rfl
  · obtain ⟨d, l0, l1, sz, word, place, many, ms, rfl, hD, hsz, nsz, hms, hml, hp, h6, k⟩ := h
    refine ⟨_, PSs.nox (pss_cons (ps_set (i := 5) sc_law_step_drawn.nd rfl (Or.inl rfl) (pe_lst (pa_cons (pe_call C_law_draw.G (hr.mono (by decide)) rfl C_law_draw.m C_law_draw.kp C_law_draw.b .nil pass0 (pa_cons (pv 0) (pa_cons (pv 3) pa_nil))) (pa_cons (pv 2) (pa_cons (pe_op op_mod (pe_callTy call_int1 (by rfl) T.int_ (by decide +kernel) (pa_cons (pe_op op_add (pv 2) pe_int) pa_nil)) (pv 3)) pa_nil)))))
      (pss_cons (ps_par3 (i := 6) (j := 7) (l := 8) (by rfl) sc_law_step_drawn.nd rfl rfl rfl (by decide) (by decide) (by decide) rfl rfl rfl (pa_cons (pe_call C_law_one.G (hr.mono (by decide)) rfl C_law_one.m C_law_one.kp C_law_one.b .nil pass0 (pa_cons (pv 0) (pa_cons (pv 5) pa_nil))) (pa_cons (pe_op op_add pe_int (pe_call C_law_draw.G (hr.mono (by decide)) rfl C_law_draw.m C_law_draw.kp C_law_draw.b .nil pass0 (pa_cons (pv 0) (pa_cons pe_int pa_nil)))) (pa_cons (pe_call C_law_one.G (hr.mono (by decide)) rfl C_law_one.m C_law_one.kp C_law_one.b .nil pass0 (pa_cons (pv 0) (pa_cons (pe_lst (pa_cons pe_int (pa_cons pe_int (pa_cons pe_int pa_nil)))) pa_nil))) pa_nil))) (by rfl))
      (pss_cons (ps_set (i := 9) sc_law_step_drawn.nd rfl (Or.inl rfl) (pe_op op_sub (pe_op op_sub (pv 3) pe_int) (pe_call C_law_draw.G (hr.mono (by decide)) rfl C_law_draw.m C_law_draw.kp C_law_draw.b .nil pass0 (pa_cons (pv 0) (pa_cons (pe_callB (call_min2 rfl) (by rfl) T.min_ (by decide +kernel) (pa_cons (pe_callTy call_int1 (by rfl) T.int_ (by decide +kernel) (pa_cons (pv 3) pa_nil)) (pa_cons (pe_callTy call_int1 (by rfl) T.int_ (by decide +kernel) (pa_cons (pv 8) pa_nil)) pa_nil))) pa_nil)))))
      (pss_cons (ps_if (pt_cmpR op_eq (pv 1) pe_str (nomark _)) (pss_one (ps_ret (pe_tup (pa_cons pe_str (pa_cons (pe_call C_law_one.G (hr.mono (by decide)) rfl C_law_one.m C_law_one.kp C_law_one.b .nil pass0 (pa_cons (pv 0) (pa_cons (pe_lst (pa_cons pe_str (pa_cons pe_str pa_nil))) pa_nil))) pa_nil))))) pss_nil)
      (pss_cons (ps_if (pt_cmpR op_eq (pv 1) pe_str (nomark _)) (pss_one (ps_ret (pe_tup (pa_cons pe_str (pa_cons (pv 7) (pa_cons (pv 6) pa_nil)))))) pss_nil)
      (pss_cons (ps_if (PW.pt (pw_and (pt_cmpR op_eq (pv 1) pe_str (nomark _)) (pw_and1 (pt_cmpR (op_neD hr.units) (pv 4) (pe_lst pa_nil) (nomark _))))) (pss_cons (ps_set (i := 10) sc_law_step_drawn.nd rfl (Or.inl rfl) (pe_call C_law_one.G (hr.mono (by decide)) rfl C_law_one.m C_law_one.kp C_law_one.b .nil pass0 (pa_cons (pv 0) (pa_cons (pv 4) pa_nil))))
      (pss_one (ps_ret (pe_tup (pa_cons pe_str (pa_cons (pv 10) (pa_cons (pe_callTy call_tuple_of (by rfl) T.tuple_ (by decide +kernel) (pa_cons (pe_lc (own := [("_law_turn", 11)]) (by rfl) sc_law_step_drawn.nd (pi_range1 rfl T.range_ (pa_cons (pv 10) pa_nil)) (blkOk_by (N := N_law_step_drawn) (sc := defScope s_law_step_drawn) (by decide +kernel)) (fun _ _ _ _ _ => (pg_name (i := 11) sc_law_step_drawn.nd rfl (Or.inl rfl))) (fun _ _ _ _ _ => pts_nil) (fun _ _ _ _ _ => (pe_call C_law_draw.G (hr.mono (by decide)) rfl C_law_draw.m C_law_draw.kp C_law_draw.b .nil pass0 (pa_cons (pv 0) (pa_cons (pv 3) pa_nil))))) pa_nil)) pa_nil))))))) pss_nil)
      (pss_one (ps_ret (pe_tup (pa_cons pe_str (pa_cons (pv 7) (pa_cons (pv 6) (pa_cons (pv 9) pa_nil))))))))))))), ?_⟩
    have l100 : 100 < sizeLine := by decide
    -- near
    refine ⟨_, rfl, _, rfl, d, l0, l1, (many : Int), rfl, hD, by omega, by omega, fun H1 i1 D1 i10 i11 => ?_⟩
    refine ⟨_, rfl, _, rfl, _, _, rfl, rfl, .inl ⟨_, rfl, _, rfl, _, _, rfl, rfl, (by show (0 : Int) < (many : Int); omega), (by show 3 ≤ sizeLine; decide), fun N hN => ?_⟩⟩
    have S2 : Same H1 (upd H1 N (.lst ([i1, (place : Int), ((place : Int) + 1) % (many : Int)].map V.int))) := Same.new hN
    have nN := D1.k.ne hN
    have D2 := D1.thn S2
    -- to, k, last
    refine ⟨_, rfl, _, rfl, d, l0, l1, N, [i1, (place : Int), ((place : Int) + 1) % (many : Int)].map V.int, rfl, D2.k, upd_same, nN, (by show 0 < 3; decide), (by show 3 < 1073741824; decide), fun H3 v D3 hv => ?_⟩
    obtain ⟨to, hto, rfl⟩ := memInts hv
    have hto2 : 0 ≤ to ∧ to < (many : Int) := by
      have a1 := Int.emod_nonneg ((place : Int) + 1) (show (many : Int) ≠ 0 by omega)
      have a2 := Int.emod_lt_of_pos ((place : Int) + 1) (show (0 : Int) < (many : Int) by omega)
      simp only [List.mem_cons, List.not_mem_nil, or_false] at hto
      rcases hto with rfl | rfl | rfl
      · omega
      · omega
      · omega
    obtain ⟨to, rfl⟩ := asNat hto2.1
    refine ⟨_, rfl, d, l0, l1, 4, rfl, D3.k, by decide, by decide, fun H4 i4 D4 i40 i41 => ⟨_, _, rfl, rfl, ?_⟩⟩
    obtain ⟨kk, hkk⟩ : ∃ kk : Nat, 1 + i4 = (kk : Int) := asNat (by omega)
    refine ⟨_, rfl, (by show 3 ≤ sizeLine; decide), fun N2 hN2 => ?_⟩
    have S5 : Same H4 (upd H4 N2 (.lst ([2, 2, 6].map V.int))) := Same.new hN2
    have D5 := D4.thn S5
    refine ⟨d, l0, l1, N2, [2, 2, 6].map V.int, rfl, D5.k, upd_same, D4.k.ne hN2, (by show 0 < 3; decide), (by show 3 < 1073741824; decide), fun H6 v D6 hv => ?_⟩
    obtain ⟨la, hla, rfl⟩ := memInts hv
    have hla2 : 2 ≤ la := by
      simp only [List.mem_cons, List.not_mem_nil, or_false] at hla
      omega
    refine ⟨_, _, _, rfl, ?_⟩
    -- other
    refine ⟨_, rfl, _, _, rfl, rfl, _, rfl, _, rfl, .inl ⟨_, rfl, _, rfl, .inl ⟨_, rfl, _, _, rfl, ?_⟩⟩⟩
    rw [min_if]
    have m1 := Int.min_le_left (many : Int) la
    have m2 : 1 ≤ min (many : Int) la := by
      rw [Int.le_min]
      exact ⟨by omega, by omega⟩
    refine ⟨d, l0, l1, _, rfl, D6.k, by omega, by omega, fun H7 i7 D7 i70 i71 => ⟨_, _, rfl, rfl, ?_⟩⟩
    obtain ⟨ot, hot⟩ : ∃ ot : Nat, (many : Int) - 1 - i7 = (ot : Int) := asNat (by omega)
    have DD : Drw d l0 l1 H H7 := (((D2.trans D3).trans D4).thn S5).trans (D6.trans D7)
    -- end
    refine ⟨_, rfl, rfl, _, rfl, itD (fun he => ?_) fun he => ?_⟩
    · refine ⟨_, rfl, (by show 2 ≤ sizeLine; decide), fun N3 hN3 => ?_⟩
      have S8 : Same H7 (upd H7 N3 (.lst [.str "yes", .str "no"])) := Same.new hN3
      have D8 := D7.thn S8
      refine ⟨d, l0, l1, N3, [.str "yes", .str "no"], rfl, D8.k, upd_same, D7.k.ne hN3, (by show 0 < 2; decide), (by show 2 < 1073741824; decide), fun H9 v D9 hv => ⟨(by show 2 ≤ sizeLine; decide), fun b hb => ?_⟩⟩
      obtain ⟨wd, rfl⟩ := memWord hv
      exact k _ b (.fin wd) (((DD.thn S8).trans D9).thn (Same.new hb)) upd_same trivial
    -- add
    refine ⟨_, rfl, rfl, _, rfl, itD (fun ha => ?_) fun ha => ?_⟩
    · refine ⟨_, rfl, _, rfl, (by show 3 ≤ sizeLine; decide), fun b hb => k _ b (.add kk to) (DD.thn (Same.new hb)) ?_ ⟨by omega, by omega, by omega⟩⟩
      have e : (V.int (kk : Int)) = .int (1 + i4) := by rw [hkk]
      show upd H7 b _ b = some (.tup [.str "add", .int (kk : Int), .int (to : Int)])
      rw [e]
      exact upd_same
    -- rest
    have hsz7 := DD.of nsz hsz
    have fin : ∀ (H' : Hp) (b : Addr), H' b = some (.tup [.str "take", .int (1 + i4), .int (to : Int), .int ((many : Int) - 1 - i7)]) → Drw d l0 l1 H H' → Q (.ref b) H' := fun H' b e D => k _ b (.take kk to ot) D (by rw [hkk, hot] at e; exact e) ⟨by omega, by omega, by omega, by omega⟩
    have lst : ∀ H', Drw d l0 l1 H H' → ∀ b, H' b = none → Q (.ref b) (upd H' b (.tup [.str "take", .int (1 + i4), .int (to : Int), .int ((many : Int) - 1 - i7)])) := fun H' D b hb => fin _ b upd_same (D.thn (Same.new hb))
    refine ⟨_, rfl, rfl, _, rfl, itD (fun hw => ?_) fun hw => ?_⟩
    · refine ⟨_, rfl, (by show 0 ≤ sizeLine; decide), fun N4 hN4 => ?_⟩
      have S8 : Same H7 (upd H7 N4 (.lst [])) := Same.new hN4
      have D8 := DD.thn S8
      have hsz8 := S8 _ _ hsz7
      rw [natsInt] at hsz8
      refine ⟨_, _, .lst (SqL.of hsz8) (dpInts _), .lst (SqL.of upd_same) .nil, PySem.W.shaped_ints _, rfl, _, rfl, ?_⟩
      rw [neInts]
      refine itD (fun hne => ?_) fun hne => ?_
      · have hml0 : 0 < ms.length := by
          cases ms with
          | nil => exact absurd rfl hne
          | cons _ _ => exact Nat.succ_pos _
        refine ⟨_, rfl, _, rfl, d, l0, l1, sz, _, rfl, D8.k, hsz8, nsz, by rw [List.length_map, List.length_map]; exact hml0, by rw [List.length_map, List.length_map]; omega, fun H9 v D9 hv => ?_⟩
        obtain ⟨z, hz, rfl⟩ := memInts hv
        obtain ⟨m, hm, rfl⟩ := List.mem_map.mp hz
        have hm2 := hms m hm
        have D10 := D8.trans D9
        refine ⟨_, rfl, _, rfl, _, rfl, by omega, by omega, fun C hC => ?_⟩
        refine lc_range (fun i H' => Drw d l0 l1 H9 H' ∧ ∃ tos : List Nat, H' C = some (.lst (tos.map fun (t : Nat) => V.int (t : Int))) ∧ tos.length = i ∧ ∀ t ∈ tos, t < many) ⟨Drw.same D9.k (Same.new hC), [], upd_same, rfl, fun t h => absurd h (by simp)⟩ ?_ ?_
        · rintro i H' hi ⟨D11, tos, h1, h2, h3⟩
          refine ⟨rfl, _, rfl, _, rfl, d, l0, l1, _, rfl, D11.k, by omega, by omega, fun H12 j D12 j0 j1 => ?_⟩
          obtain ⟨t, rfl⟩ := asNat j0
          refine ⟨_, D12.of (D9.k.ne hC) h1, by rw [List.length_map, h2]; omega, (D11.trans D12).put D9.k hC, tos ++ [t], ?_, by rw [List.length_append, h2]; rfl, fun x hx => ?_⟩
          · rw [upd_same, List.map_append]
            rfl
          · rcases List.mem_append.mp hx with q | q
            · exact h3 x q
            · rw [List.mem_singleton.mp q]
              omega
        · rintro H' ⟨D11, tos, h1, h2, h3⟩
          have h2' : tos.length = m := by rw [h2]; omega
          refine ⟨C, _, rfl, .inl ⟨SqL.of h1, fun B hB => ⟨(by show 3 ≤ sizeLine; decide), fun b hb => ?_⟩⟩⟩
          have S12 : Same H' (upd H' B (.tup (tos.map fun (t : Nat) => V.int (t : Int)))) := Same.new hB
          exact k _ b (.rest m tos) (((D10.trans D11).thn S12).thn (Same.new hb)) ⟨B, upd_same, new2 hB hb⟩ ⟨hm, h2', h3⟩
      · exact ⟨_, rfl, _, rfl, _, rfl, (by show 4 ≤ sizeLine; decide), fun b hb => lst _ D8 b hb⟩
    · exact ⟨_, rfl, _, rfl, _, rfl, (by show 4 ≤ sizeLine; decide), fun b hb => lst _ DD b hb⟩
end
end K53
end

section
set_option Elab.async false
set_option linter.all false
set_option maxRecDepth 100000
set_option maxHeartbeats 4000000
/-! K53: the law draws a program. -/
namespace K53
open PySem PySem.Spec PyProof.Rows L2
open K53M (Stp Pg S)
/-- new lists of a kind -/
structure Lsts (p : List V → Prop) (d l0 l1 : Addr) (H H' : Hp) (vs : List V) : Prop where
  D : Drw d l0 l1 H H'
  L : ∀ v ∈ vs, ∃ a xs, v = .ref a ∧ H' a = some (.lst xs) ∧ (a ≠ d ∧ a ≠ l0) ∧ p xs
theorem Lsts.nil {p : List V → Prop} {d l0 l1 : Addr} {H H' : Hp} (D : Drw d l0 l1 H H') : Lsts p d l0 l1 H H' [] := ⟨D, fun v h => nomatch h⟩
theorem Lsts.snoc {p : List V → Prop} {d l0 l1 q : Addr} {H H' : Hp} {vs xs : List V} (h : Lsts p d l0 l1 H H' vs) (hq : H' q = none) (hx : p xs) : Lsts p d l0 l1 H (upd H' q (.lst xs)) (vs ++ [.ref q]) := by
  have S : Same H' (upd H' q (.lst xs)) := Same.new hq
  refine ⟨h.D.thn S, fun v hv => ?_⟩
  rcases List.mem_append.mp hv with z | z
  · obtain ⟨a, ys, e, e1, e2, e3⟩ := h.L v z
    exact ⟨a, ys, e, S _ _ e1, e2, e3⟩
  · exact ⟨q, xs, List.mem_singleton.mp z, upd_same, h.D.k.ne hq, hx⟩
theorem Lsts.got {p : List V → Prop} {d l0 l1 : Addr} {H H' H2 : Hp} {vs : List V} {v : V} (h : Lsts p d l0 l1 H H' vs) (D : Drw d l0 l1 H' H2) (hv : v ∈ vs) : ∃ a xs, v = .ref a ∧ H2 a = some (.lst xs) ∧ (a ≠ d ∧ a ≠ l0) ∧ p xs := by
  obtain ⟨a, xs, e, e1, e2, e3⟩ := h.L v hv
  exact ⟨a, xs, e, D.of e2 e1, e2, e3⟩
def SizP (xs : List V) : Prop := ∃ (ms : List Nat) (M : Nat), xs = (ms.map fun (m : Nat) => V.int (m : Int)) ∧ (∀ m ∈ ms, 2 ≤ m ∧ m ≤ 6 ∧ m ∣ M) ∧ 1 ≤ M ∧ M ≤ 6 ∧ ms.length ≤ 6
def WrdP (xs : List V) : Prop := ∃ ws : List Str, xs = ws.map V.str ∧ 0 < ws.length ∧ ws.length < 100
theorem sizOf (ms : List Nat) (M : Nat) (h : ∀ m ∈ ms, 2 ≤ m ∧ m ≤ 6 ∧ m ∣ M) (h1 : 1 ≤ M) (h2 : M ≤ 6) (h3 : ms.length ≤ 6) : SizP (ms.map fun (m : Nat) => V.int (m : Int)) := ⟨ms, M, rfl, h, h1, h2, h3⟩
/-- a program that is built up in a list -/
def Bld (H : Hp) (Fo : Addr) (L : Nat) (ms : List Nat) (G : Pg) : Prop := ∃ as : List Addr, H Fo = some (.lst (as.map V.ref)) ∧ as.length = G.length ∧ (∀ (j : Nat) (x : Stp), G[j]? = some x → ∃ b, as[j]? = some b ∧ StpAt H b x) ∧ ∀ x ∈ G, StpG L ms x
theorem Bld.mono {H H' : Hp} {Fo : Addr} {L : Nat} {ms : List Nat} {G : Pg} (h : Bld H Fo L ms G) (t : Tups H H') (e : ∀ o, H Fo = some o → H' Fo = some o) : Bld H' Fo L ms G := by
  obtain ⟨as, h1, h2, h3, h4⟩ := h
  refine ⟨as, e _ h1, h2, fun j x ex => ?_, h4⟩
  obtain ⟨b, k1, k2⟩ := h3 j x ex
  exact ⟨b, k1, k2.mono t⟩
theorem Bld.draw {d l0 l1 : Addr} {H H' : Hp} {Fo : Addr} {L : Nat} {ms : List Nat} {G : Pg} (h : Bld H Fo L ms G) (k : DeckAt H d l0 l1) (D : Drw d l0 l1 H H') (n : Fo ≠ d ∧ Fo ≠ l0) : Bld H' Fo L ms G := h.mono (Drw.tups k D) fun o e => D.of n e
theorem Bld.snoc {H : Hp} {Fo b : Addr} {L : Nat} {ms : List Nat} {G : Pg} {x : Stp} (h : Bld H Fo L ms G) (hb : StpAt H b x) (hx : StpG L ms x) : ∃ xs, H Fo = some (.lst xs) ∧ xs.length = G.length ∧ Bld (upd H Fo (.lst (xs ++ [.ref b]))) Fo L ms (G ++ [x]) := by
  obtain ⟨as, h1, h2, h3, h4⟩ := h
  have t : Tups H (upd H Fo (.lst (as.map V.ref ++ [.ref b]))) := Tups.upd h1 (fun _ z => by cases z)
  refine ⟨as.map V.ref, h1, by rw [List.length_map, h2], as ++ [b], by rw [upd_same, List.map_append]; rfl, by rw [List.length_append, List.length_append, h2]; rfl, fun j y ey => ?_, fun y hy => ?_⟩
  · by_cases hj : j < G.length
    · rw [List.getElem?_append_left hj] at ey
      obtain ⟨c, k1, k2⟩ := h3 j y ey
      exact ⟨c, by rw [List.getElem?_append_left (by omega)]; exact k1, k2.mono t⟩
    · rw [List.getElem?_append_right (by omega)] at ey
      have e0 : j - G.length = 0 := by
        cases hz : j - G.length with
        | zero => rfl
        | succ z => rw [hz] at ey; simp at ey
      rw [e0] at ey
      cases ey
      exact ⟨b, by rw [List.getElem?_append_right (by omega), h2, e0]; rfl, hb.mono t⟩
  · rcases List.mem_append.mp hy with z | z
    · exact h4 y z
    · rw [List.mem_singleton.mp z]
      exact hx
theorem Bld.last {H : Hp} {Fo b : Addr} {L : Nat} {ms : List Nat} {G : Pg} {x y : Stp} (h : Bld H Fo L ms (G ++ [x])) (hb : StpAt H b y) (hy : StpG L ms y) : ∃ xs, H Fo = some (.lst xs) ∧ xs.length = G.length + 1 ∧ Bld (upd H Fo (.lst (xs.set G.length (.ref b)))) Fo L ms (G ++ [y]) := by
  obtain ⟨as, h1, h2, h3, h4⟩ := h
  rw [List.length_append] at h2
  have h2 : as.length = G.length + 1 := h2
  have t : Tups H (upd H Fo (.lst ((as.map V.ref).set G.length (.ref b)))) := Tups.upd h1 (fun _ z => by cases z)
  refine ⟨as.map V.ref, h1, by rw [List.length_map, h2], as.set G.length b, by rw [upd_same, List.map_set], by rw [List.length_set, List.length_append, h2]; rfl, fun j z ez => ?_, fun z hz => ?_⟩
  · by_cases hj : j < G.length
    · rw [List.getElem?_append_left hj] at ez
      obtain ⟨c, k1, k2⟩ := h3 j z (by rw [List.getElem?_append_left hj]; exact ez)
      exact ⟨c, by rw [List.getElem?_set_ne (by omega)]; exact k1, k2.mono t⟩
    · rw [List.getElem?_append_right (by omega)] at ez
      have e0 : j - G.length = 0 := by
        cases hz : j - G.length with
        | zero => rfl
        | succ z => rw [hz] at ez; simp at ez
      rw [e0] at ez
      cases ez
      have ej : j = G.length := by omega
      subst ej
      exact ⟨b, by rw [List.getElem?_set_self (by omega)], hb.mono t⟩
  · rcases List.mem_append.mp hz with q | q
    · exact h4 z (List.mem_append_left _ q)
    · rw [List.mem_singleton.mp q]
      exact hy
/-- the list is read as a tuple -/
theorem Bld.pg {H : Hp} {Fo : Addr} {L : Nat} {ms : List Nat} {G : Pg} (h : Bld H Fo L ms G) : ∃ xs, H Fo = some (.lst xs) ∧ xs.length = G.length ∧ ∀ (H' : Hp) (b : Addr), Tups H H' → H' b = some (.tup xs) → PgAt H' b G := by
  obtain ⟨as, h1, h2, h3, h4⟩ := h
  refine ⟨_, h1, by rw [List.length_map, h2], fun H' b t e => ⟨as, e, h2, fun j x ex => ?_⟩⟩
  obtain ⟨c, k1, k2⟩ := h3 j x ex
  exact ⟨c, k1, k2.mono t⟩
theorem Bld.ok {H : Hp} {Fo : Addr} {ms : List Nat} {M : Nat} {G : Pg} (h : Bld H Fo G.length ms G) (l1 : 1 ≤ G.length) (l6 : G.length ≤ 6) (hm : ∀ m ∈ ms, 2 ≤ m ∧ m ≤ 6 ∧ m ∣ M) (m1 : 1 ≤ M) (m6 : M ≤ 6) : K53M.Ok G (K53M.roundM G) := by
  obtain ⟨as, h1, h2, h3, h4⟩ := h
  refine K53M.Ok.roundM (M := M) ⟨l1, l6, m1, m6, fun p x e => ?_⟩
  have hx := h4 x (List.mem_of_getElem? e)
  cases x with
  | fin w => trivial
  | add k to => exact hx
  | take k to ot => exact hx
  | rest m tos =>
    obtain ⟨a, b, c⟩ := hx
    have := hm m a
    exact ⟨this.1, this.2.1, b, c, this.2.2⟩
section
variable {P : Program} {w : World} {K : PySem.W.Frag} {mg : Str → Option Value} {base : Heap} {f : Addr} {fd : FuncData} {cR cY cW : Addr} {tN : Tok}
def spPg : Sp := fun vs H Q _ => ∃ (d l0 l1 : Addr), vs = [.ref d] ∧ DeckAt H d l0 l1 ∧ ∀ (H' : Hp) (b : Addr) (G : Pg), Drw d l0 l1 H H' → PgAt H' b G → K53M.Ok G (K53M.roundM G) → Q (.ref b) H'
theorem ok_law_program (T : Txt K mg cR cY cW tN) (F : FnP K "_law_program" "_law_program" s_law_program f fd) {f1 fd1 f2 fd2 f3 fd3} (C_law_draw : CalOk P w K mg base "_law_draw" 1 ["_law_deck_here", "_law_many"] spDraw f1 fd1) (C_law_one : CalOk P w K mg base "_law_one" 2 ["_law_deck_here", "_law_items"] spOne f2 fd2)
    (C_law_step_drawn : CalOk P w K mg base "_law_step_drawn" 3 ["_law_deck_here", "_law_word", "_law_place", "_law_many", "_law_sizes"] spSD f3 fd3) : FnOk P w K mg base CX0 4 f fd ["_law_deck_here"] spPg := by
  refine F.ok sc_law_program (fun vs H Q E h => ?_) (fun cdv A outer s0 H vs Q E hr h => ?_)
  · obtain ⟨d, l0, l1, rfl, _⟩ := h
    rfl
  · obtain ⟨d, l0, l1, rfl, hD, k⟩ := h
    refine ⟨_, PSs.nox (pss_cons (ps_set (i := 1) sc_law_program.nd rfl (Or.inl rfl) (pe_call C_law_one.G (hr.mono (by decide)) rfl C_law_one.m C_law_one.kp C_law_one.b .nil pass0 (pa_cons (pv 0) (pa_cons (pe_lst (pa_cons pe_int (pa_cons pe_int (pa_cons pe_int (pa_cons pe_int (pa_cons pe_int (pa_cons pe_int (pa_cons pe_int (pa_cons pe_int pa_nil))))))))) pa_nil))))
      (pss_cons (ps_set (i := 2) sc_law_program.nd rfl (Or.inl rfl) (pe_call C_law_one.G (hr.mono (by decide)) rfl C_law_one.m C_law_one.kp C_law_one.b .nil pass0 (pa_cons (pv 0) (pa_cons (pe_lst (pa_cons (pe_lst pa_nil) (pa_cons (pe_lst (pa_cons pe_int pa_nil)) (pa_cons (pe_lst (pa_cons pe_int pa_nil)) (pa_cons (pe_lst (pa_cons pe_int (pa_cons pe_int pa_nil))) (pa_cons (pe_lst (pa_cons pe_int pa_nil)) (pa_cons (pe_lst (pa_cons pe_int pa_nil)) (pa_cons (pe_lst (pa_cons pe_int (pa_cons pe_int (pa_cons pe_int pa_nil)))) (pa_cons (pe_lst (pa_cons pe_int (pa_cons pe_int pa_nil))) pa_nil))))))))) pa_nil))))
      (pss_cons (ps_set (i := 3) sc_law_program.nd rfl (Or.inl rfl) (pe_lst (pa_cons (pe_lst (pa_cons pe_str (pa_cons pe_str (pa_cons pe_str (pa_cons pe_str (pa_cons pe_str pa_nil)))))) (pa_cons (pe_lst (pa_cons pe_str pa_nil)) (pa_cons (pe_lst (pa_cons pe_str (pa_cons pe_str (pa_cons pe_str pa_nil)))) (pa_cons (pe_lst (pa_cons pe_str (pa_cons pe_str (pa_cons pe_str pa_nil)))) pa_nil))))))
      (pss_cons (ps_par (i := 3) (j := 4) (by rfl) sc_law_program.nd rfl rfl (by decide) rfl rfl (pa_cons (pe_call C_law_one.G (hr.mono (by decide)) rfl C_law_one.m C_law_one.kp C_law_one.b .nil pass0 (pa_cons (pv 0) (pa_cons (pv 3) pa_nil))) (pa_cons (pe_lst pa_nil) pa_nil)) (by rfl))
      (pss_cons (ps_for PassesOwn.never rfl (pi_range1 rfl T.range_ (pa_cons (pv 1) pa_nil)) (pg_name (i := 5) sc_law_program.nd rfl (Or.inl rfl)) (pss_cons (ps_set (i := 6) sc_law_program.nd rfl (Or.inl rfl) (pe_call C_law_one.G (hr.mono (by decide)) rfl C_law_one.m C_law_one.kp C_law_one.b .nil pass0 (pa_cons (pv 0) (pa_cons (pv 3) pa_nil))))
      (pss_cons (ps_expr (pe_bm PySem.F.plainAttrs_list PySem.F.slot_list_append PySem.F.type_list_append mt_append (pv 4) (pa_cons (pe_call C_law_step_drawn.G (hr.mono (by decide)) rfl C_law_step_drawn.m C_law_step_drawn.kp C_law_step_drawn.b .nil pass0 (pa_cons (pv 0) (pa_cons (pv 6) (pa_cons (pv 5) (pa_cons (pv 1) (pa_cons (pv 2) pa_nil)))))) pa_nil)))
      (pss_one (ps_if (PW.pt (pw_and (pt_cmpR op_gt (pv 5) pe_int (nomark _)) (pw_and (pt_cmpR op_gt (pv 5) (pe_op op_sub (pv 1) pe_int) (nomark _)) (pw_and1 (pt_cmpR op_gt (pe_call C_law_draw.G (hr.mono (by decide)) rfl C_law_draw.m C_law_draw.kp C_law_draw.b .nil pass0 (pa_cons (pv 0) (pa_cons pe_int pa_nil))) pe_int (nomark _)))))) (pss_one (ps_asg (pe_tup (pa_cons pe_str (pa_cons (pe_ix ix_list (pe_lst (pa_cons pe_str (pa_cons pe_str pa_nil))) (pe_op op_mod (pe_callTy call_int1 (by rfl) T.int_ (by decide +kernel) (pa_cons (pv 5) pa_nil)) pe_int) (fun _ _ => rfl)) pa_nil))) (pg_sub (pv 4) (pe_un un_neg pe_int) set_list))) pss_nil)))))
      (pss_one (ps_ret (pe_callTy call_tuple_of (by rfl) T.tuple_ (by decide +kernel) (pa_cons (pv 4) pa_nil))))))))), ?_⟩
    have l100 : 100 < sizeLine := by decide
    -- many
    refine ⟨_, rfl, (by show 8 ≤ sizeLine; decide), fun N hN => ?_⟩
    have S1 : Same H (upd H N (.lst ([1, 2, 3, 4, 5, 6, 6, 6].map V.int))) := Same.new hN
    have D1 := Drw.same hD S1
    refine ⟨d, l0, l1, N, [1, 2, 3, 4, 5, 6, 6, 6].map V.int, rfl, D1.k, upd_same, hD.ne hN, (by show 0 < 8; decide), (by show 8 < 1073741824; decide), fun H2 v D2 hv => ?_⟩
    obtain ⟨mz, hmz, rfl⟩ := memInts hv
    have hmz2 : 1 ≤ mz ∧ mz ≤ 6 := by
      simp only [List.mem_cons, List.not_mem_nil, or_false] at hmz
      omega
    obtain ⟨many, rfl⟩ := asNat (show 0 ≤ mz by omega)
    have D3 := D1.trans D2
    -- sizes
    refine ⟨_, rfl, (by show 0 ≤ sizeLine; decide), fun sp0 se0 => ?_⟩
    have sL0 := (Lsts.nil (p := SizP) (Drw.refl D3.k)).snoc se0 (sizOf [] 1 (by decide) (by decide) (by decide) (by decide))
    refine ⟨(by show 1 ≤ sizeLine; decide), fun sp1 se1 => ?_⟩
    have sL1 := sL0.snoc se1 (sizOf [2] 2 (by decide) (by decide) (by decide) (by decide))
    refine ⟨(by show 1 ≤ sizeLine; decide), fun sp2 se2 => ?_⟩
    have sL2 := sL1.snoc se2 (sizOf [3] 3 (by decide) (by decide) (by decide) (by decide))
    refine ⟨(by show 2 ≤ sizeLine; decide), fun sp3 se3 => ?_⟩
    have sL3 := sL2.snoc se3 (sizOf [4, 2] 4 (by decide) (by decide) (by decide) (by decide))
    refine ⟨(by show 1 ≤ sizeLine; decide), fun sp4 se4 => ?_⟩
    have sL4 := sL3.snoc se4 (sizOf [5] 5 (by decide) (by decide) (by decide) (by decide))
    refine ⟨(by show 1 ≤ sizeLine; decide), fun sp5 se5 => ?_⟩
    have sL5 := sL4.snoc se5 (sizOf [6] 6 (by decide) (by decide) (by decide) (by decide))
    refine ⟨(by show 3 ≤ sizeLine; decide), fun sp6 se6 => ?_⟩
    have sL6 := sL5.snoc se6 (sizOf [6, 3, 2] 6 (by decide) (by decide) (by decide) (by decide))
    refine ⟨(by show 2 ≤ sizeLine; decide), fun sp7 se7 => ?_⟩
    have sL7 := sL6.snoc se7 (sizOf [2, 3] 6 (by decide) (by decide) (by decide) (by decide))
    refine ⟨(by show 8 ≤ sizeLine; decide), fun N2 hN2 => ?_⟩
    have S4 := Same.new (o := HO.lst [.ref sp0, .ref sp1, .ref sp2, .ref sp3, .ref sp4, .ref sp5, .ref sp6, .ref sp7]) hN2
    refine ⟨d, l0, l1, N2, _, rfl, sL7.D.k.mono S4, upd_same, sL7.D.k.ne hN2, (by show 0 < 8; decide), (by show 8 < 1073741824; decide), fun H5 v D5 hv => ?_⟩
    have D45 := (Drw.same sL7.D.k S4).trans D5
    obtain ⟨sz, xs, rfl, hsz, nsz, ms, M, rfl, hms, m1, m6, hml⟩ := sL7.got D45 hv
    have D6 := (D3.trans sL7.D).trans D45
    -- words
    refine ⟨(by show 5 ≤ sizeLine; decide), fun wp0 we0 => ?_⟩
    have wL0 := (Lsts.nil (p := WrdP) (Drw.refl D6.k)).snoc we0 (p := WrdP) ⟨(["take", "take", "add", "rest", "end"] : List Str), rfl, by decide, by decide⟩
    refine ⟨(by show 1 ≤ sizeLine; decide), fun wp1 we1 => ?_⟩
    have wL1 := wL0.snoc we1 (p := WrdP) ⟨(["take"] : List Str), rfl, by decide, by decide⟩
    refine ⟨(by show 3 ≤ sizeLine; decide), fun wp2 we2 => ?_⟩
    have wL2 := wL1.snoc we2 (p := WrdP) ⟨(["rest", "take", "take"] : List Str), rfl, by decide, by decide⟩
    refine ⟨(by show 3 ≤ sizeLine; decide), fun wp3 we3 => ?_⟩
    have wL3 := wL2.snoc we3 (p := WrdP) ⟨(["take", "take", "add"] : List Str), rfl, by decide, by decide⟩
    refine ⟨(by show 4 ≤ sizeLine; decide), fun N3 hN3 => ?_⟩
    have S7 := Same.new (o := HO.lst [.ref wp0, .ref wp1, .ref wp2, .ref wp3]) hN3
    have D7 : Drw d l0 l1 H _ := D6.trans (wL3.D.thn S7)
    refine ⟨_, rfl, _, rfl, d, l0, l1, N3, _, rfl, D7.k, upd_same, wL3.D.k.ne hN3, (by show 0 < 4; decide), (by show 4 < 1073741824; decide), fun H8 v D8 hv => ⟨(by show 0 ≤ sizeLine; decide), fun Fo hFo => ⟨_, _, rfl, ?_⟩⟩⟩
    obtain ⟨wa, ys, rfl, hwa, nwa, ws, rfl, ws0, ws1⟩ := wL3.got ((Drw.same wL3.D.k S7).trans D8) hv
    have D08 := D7.trans D8
    have hsz8 := ((wL3.D.thn S7).trans D8).of nsz hsz
    have nFo := D8.k.ne hFo
    have D9 : Drw d l0 l1 H8 (upd H8 Fo (.lst [])) := Drw.same D8.k (Same.new hFo)
    -- the loop
    refine ⟨_, rfl, (many : Int), rfl, by omega, by omega, fun i m σ H' => m = many - i ∧ i ≤ many ∧ ∃ (v5 v6 : Option V) (G : Pg), σ = [some (.ref d), some (.int (many : Int)), some (.ref sz), some (.ref wa), some (.ref Fo), v5, v6] ∧ Drw d l0 l1 H8 H' ∧ Bld H' Fo many ms G ∧ G.length = i,
      ⟨many, rfl, Nat.zero_le _, none, none, [], rfl, D9, ⟨[], upd_same, rfl, fun j x e => by simp at e, fun x h => nomatch h⟩, rfl⟩, ?_⟩
    rintro i m σ H' ⟨rfl, hi0, v5, v6, G, rfl, D10, hB, hG⟩
    by_cases hi : i < many
    · refine .inr ⟨by show i < ((many : Nat) : Int).toNat; omega, _, fun _ _ z => z, fun y H2 hy => ?_⟩
      obtain ⟨rfl, hy⟩ := hy
      rw [Int.zero_add] at hy
      subst hy
      refine ⟨_, rfl, _, rfl, d, l0, l1, wa, _, rfl, D10.k, D10.of nwa hwa, nwa, by rw [List.length_map]; exact ws0, by rw [List.length_map]; omega, fun H11 v D11 hv => ?_⟩
      obtain ⟨word, hword, rfl⟩ := List.mem_map.mp hv
      have hB1 := hB.draw D10.k D11 nFo
      have D12 := D10.trans D11
      obtain ⟨xs0, hx0, _⟩ := hB1.pg
      refine ⟨_, rfl, .inl ⟨rfl, _, SqL.of hx0⟩, _, rfl, _, rfl, _, rfl, _, rfl, _, rfl, d, l0, l1, sz, word, i, many, ms, rfl, D11.k, D12.of nsz hsz8, nsz, fun m hm => ⟨(hms m hm).1, (hms m hm).2.1⟩, hml, hi, by omega, fun H13 b x D13 hb hx => ?_⟩
      have hB2 := hB1.draw D11.k D13 nFo
      obtain ⟨xs, h1, h2, hB3⟩ := hB2.snoc hb hx
      refine ⟨Fo, xs, _, rfl, rfl, h1, by omega, ?_⟩
      have D14 := (D12.trans D13).put (o := .lst (xs ++ [.ref b])) D8.k hFo
      generalize upd H13 Fo (.lst (xs ++ [.ref b])) = H14 at D14 hB3
      have hlen : (G ++ [x]).length = i + 1 := by rw [List.length_append, hG]; rfl
      have nx : ∀ (H' : Hp) (G' : Pg), Drw d l0 l1 H8 H' → Bld H' Fo many ms G' → G'.length = i + 1 → ∃ m' : Nat, m' < many - i ∧ m' = many - (i + 1) ∧ i + 1 ≤ many ∧ ∃ (v5 v6 : Option V) (G : Pg), [some (V.ref d), some (.int (many : Int)), some (.ref sz), some (.ref wa), some (.ref Fo), some (.int (i : Int)), some (.str word)] = [some (.ref d), some (.int (many : Int)), some (.ref sz), some (.ref wa), some (.ref Fo), v5, v6] ∧ Drw d l0 l1 H8 H' ∧ Bld H' Fo many ms G ∧ G.length = i + 1 :=
        fun H' G' a b c => ⟨many - (i + 1), by omega, rfl, hi, _, _, G', rfl, a, b, c⟩
      refine ⟨_, rfl, _, _, rfl, rfl, _, rfl, itD (fun g1 => ?_) fun g1 => nx _ _ D14 hB3 hlen⟩
      refine ⟨_, rfl, _, rfl, _, _, rfl, rfl, _, _, rfl, rfl, _, rfl, itD (fun g2 => ?_) fun g2 => nx _ _ D14 hB3 hlen⟩
      refine ⟨_, rfl, d, l0, l1, 8, rfl, D14.k, by decide, by decide, fun H15 j D15 j0 j1 => ⟨_, _, rfl, rfl, _, rfl, ?_⟩⟩
      have hB4 := hB3.draw D14.k D15 nFo
      refine itD (fun g3 => ?_) fun g3 => nx _ _ (D14.trans D15) hB4 hlen
      refine ⟨(by show 2 ≤ sizeLine; decide), fun N4 hN4 => ?_⟩
      have hat : ∃ wd : Bool, atI [V.str "yes", V.str "no"] ((i : Int) % 2) = some (.str (wordS wd)) := by
        rcases Int.emod_two_eq (i : Int) with e | e
        · exact ⟨true, by rw [e]; rfl⟩
        · exact ⟨false, by rw [e]; rfl⟩
      obtain ⟨wd, hwd⟩ := hat
      refine ⟨_, rfl, .inl ⟨_, rfl, _, _, rfl, rfl, (by show (0 : Int) < 2; decide), N4, _, _, _, rfl, rfl, SqL.of upd_same, hwd, (by show 2 ≤ sizeLine; decide), fun b2 hb2 => ?_⟩⟩
      have S16 : Same H15 (upd H15 N4 (.lst [.str "yes", .str "no"])) := Same.new hN4
      have S17 := Same.new (o := HO.tup [.str "end", .str (wordS wd)]) hb2
      have hB5 := (hB4.mono (Same.tups S16) (fun o e => S16 _ _ e)).mono (Same.tups S17) (fun o e => S17 _ _ e)
      obtain ⟨zs, k1, k2, hB6⟩ := hB5.last (b := b2) (y := .fin wd) upd_same trivial
      refine ⟨_, rfl, 1, rfl, Fo, zs, _, G.length, rfl, rfl, k1, ?_, nx _ _ ((((D14.trans D15).thn S16).thn S17).put D8.k hFo) hB6 (by rw [List.length_append, hG]; rfl)⟩
      unfold ixN
      rw [if_neg (by decide), if_pos (by rw [k2]; omega), k2]
      congr 1
      omega
    · refine .inl ⟨by show ((many : Nat) : Int).toNat ≤ i; omega, ?_⟩
      have ei : i = many := by omega
      subst ei
      obtain ⟨xs, h1, h2, h3⟩ := hB.pg
      refine ⟨_, rfl, Fo, xs, rfl, .inl ⟨SqL.of h1, fun b hb => ?_⟩⟩
      have S : Same H' (upd H' b (.tup xs)) := Same.new hb
      refine k _ b G ((D08.trans D10).thn S) (h3 _ b (Same.tups S) upd_same) ?_
      rw [← hG] at hB
      exact hB.ok (by omega) (by omega) hms m1 m6
end
end K53
end

section
set_option Elab.async false
set_option linter.all false
set_option maxRecDepth 100000
set_option maxHeartbeats 4000000
/-! K53: the law draws rings of refused takes. -/
namespace K53
open PySem PySem.Spec PyProof.Rows L2
open K53M (Stp Pg S)
def RngP (xs : List V) : Prop := ∃ zs : List Nat, xs = (zs.map fun (m : Nat) => V.int (m : Int)) ∧ (∀ z ∈ zs, 1 ≤ z) ∧ 4 ≤ zs.sum ∧ zs.sum ≤ 5 ∧ 0 < zs.length ∧ zs.length ≤ 5
theorem rngOf (zs : List Nat) (h1 : ∀ z ∈ zs, 1 ≤ z) (h2 : 4 ≤ zs.sum) (h3 : zs.sum ≤ 5) (h4 : 0 < zs.length) (h5 : zs.length ≤ 5) : RngP (zs.map fun (m : Nat) => V.int (m : Int)) := ⟨zs, rfl, h1, h2, h3, h4, h5⟩
theorem StpG.more {L : Nat} {ms ns : List Nat} (h : ∀ m ∈ ms, m ∈ ns) {x : Stp} (g : StpG L ms x) : StpG L ns x := by
  cases x with
  | fin w => trivial
  | add k to => exact g
  | take k to o => exact g
  | rest m tos => exact ⟨h m g.1, g.2⟩
theorem Bld.more {H : Hp} {Fo : Addr} {L : Nat} {ms ns : List Nat} {G : Pg} (b : Bld H Fo L ms G) (h : ∀ m ∈ ms, m ∈ ns) : Bld H Fo L ns G := by
  obtain ⟨as, h1, h2, h3, h4⟩ := b
  exact ⟨as, h1, h2, h3, fun x hx => (h4 x hx).more h⟩
/-- found + [..], the new steps at cs -/
theorem Bld.cat {H : Hp} {Fo p : Addr} {L : Nat} {ms : List Nat} {G Gs : Pg} {xs : List V} {cs : List Addr} (b : Bld H Fo L ms G) (e : H Fo = some (.lst xs)) (hp : H p = some (.lst (xs ++ cs.map V.ref))) (hl : cs.length = Gs.length)
    (hc : ∀ (j : Nat) (x : Stp), Gs[j]? = some x → ∃ c, cs[j]? = some c ∧ StpAt H c x) (hg : ∀ x ∈ Gs, StpG L ms x) : Bld H p L ms (G ++ Gs) := by
  obtain ⟨as, h1, h2, h3, h4⟩ := b
  rw [h1] at e
  cases e
  refine ⟨as ++ cs, by rw [hp, List.map_append], by rw [List.length_append, List.length_append, h2, hl], fun j y ey => ?_, fun y hy => ?_⟩
  · by_cases hj : j < G.length
    · rw [List.getElem?_append_left hj] at ey
      obtain ⟨c, k1, k2⟩ := h3 j y ey
      exact ⟨c, by rw [List.getElem?_append_left (by omega)]; exact k1, k2⟩
    · rw [List.getElem?_append_right (by omega)] at ey
      obtain ⟨c, k1, k2⟩ := hc _ y ey
      exact ⟨c, by rw [List.getElem?_append_right (by omega), h2]; exact k1, k2⟩
  · rcases List.mem_append.mp hy with z | z
    · exact h4 y z
    · exact hg y z
theorem sum_take_le (zs : List Nat) (i : Nat) : (zs.take i).sum ≤ zs.sum := by
  have h := congrArg List.sum (List.take_append_drop i zs)
  rw [List.sum_append] at h
  omega
theorem sum_take_succ {zs : List Nat} {i z : Nat} (h : zs[i]? = some z) : (zs.take (i + 1)).sum = (zs.take i).sum + z := by
  rw [List.take_add_one, h, List.sum_append]
  simp
section
variable {P : Program} {w : World} {K : PySem.W.Frag} {mg : Str → Option Value} {base : Heap} {f : Addr} {fd : FuncData} {cR cY cW : Addr} {tN : Tok}
theorem ok_law_loops (T : Txt K mg cR cY cW tN) (F : FnP K "_law_loops" "_law_loops" s_law_loops f fd) {f1 fd1 f2 fd2} (C_law_draw : CalOk P w K mg base "_law_draw" 1 ["_law_deck_here", "_law_many"] spDraw f1 fd1) (C_law_one : CalOk P w K mg base "_law_one" 2 ["_law_deck_here", "_law_items"] spOne f2 fd2) :
    FnOk P w K mg base CX0 4 f fd ["_law_deck_here"] spPg := by
  refine F.ok sc_law_loops (fun vs H Q E h => ?_) (fun cdv A outer s0 H vs Q E hr h => ?_)
  · obtain ⟨d, l0, l1, rfl, _⟩ := h
    rfl
  · obtain ⟨d, l0, l1, rfl, hD, k⟩ := h
    refine ⟨_, PSs.nox (pss_cons (ps_set (i := 1) sc_law_loops.nd rfl (Or.inl rfl) (pe_lst pa_nil))
      (pss_cons (ps_set (i := 2) sc_law_loops.nd rfl (Or.inl rfl) (pe_lst (pa_cons (pe_lst (pa_cons pe_int (pa_cons pe_int (pa_cons pe_int (pa_cons pe_int (pa_cons pe_int pa_nil)))))) (pa_cons (pe_lst (pa_cons pe_int (pa_cons pe_int (pa_cons pe_int pa_nil)))) (pa_cons (pe_lst (pa_cons pe_int (pa_cons pe_int pa_nil))) (pa_cons (pe_lst (pa_cons pe_int (pa_cons pe_int pa_nil))) (pa_cons (pe_lst (pa_cons pe_int pa_nil)) (pa_cons (pe_lst (pa_cons pe_int (pa_cons pe_int (pa_cons pe_int (pa_cons pe_int pa_nil))))) (pa_cons (pe_lst (pa_cons pe_int (pa_cons pe_int pa_nil))) (pa_cons (pe_lst (pa_cons pe_int (pa_cons pe_int pa_nil))) (pa_cons (pe_lst (pa_cons pe_int pa_nil)) (pa_cons (pe_lst (pa_cons pe_int (pa_cons pe_int (pa_cons pe_int pa_nil)))) pa_nil))))))))))))
      (pss_cons (ps_for PassesOwn.never rfl (pi_list (pe_call C_law_one.G (hr.mono (by decide)) rfl C_law_one.m C_law_one.kp C_law_one.b .nil pass0 (pa_cons (pv 0) (pa_cons (pv 2) pa_nil)))) (pg_name (i := 3) sc_law_loops.nd rfl (Or.inl rfl)) (pss_cons (ps_set (i := 4) sc_law_loops.nd rfl (Or.inl rfl) (pe_callB call_len_seq (by rfl) T.len_ (by decide +kernel) (pa_cons (pv 1) pa_nil)))
      (pss_one (ps_for PassesOwn.never rfl (pi_range1 rfl T.range_ (pa_cons (pv 3) pa_nil)) (pg_name (i := 5) sc_law_loops.nd rfl (Or.inl rfl)) (pss_cons (ps_set (i := 6) sc_law_loops.nd rfl (Or.inl rfl) (pe_call C_law_one.G (hr.mono (by decide)) rfl C_law_one.m C_law_one.kp C_law_one.b .nil pass0 (pa_cons (pv 0) (pa_cons (pe_lst (pa_cons (pe_call C_law_draw.G (hr.mono (by decide)) rfl C_law_draw.m C_law_draw.kp C_law_draw.b .nil pass0 (pa_cons (pv 0) (pa_cons pe_int pa_nil))) (pa_cons pe_int (pa_cons pe_int pa_nil)))) pa_nil))))
      (pss_one (ps_expr (pe_bm PySem.F.plainAttrs_list PySem.F.slot_list_append PySem.F.type_list_append mt_append (pv 1) (pa_cons (pe_tup (pa_cons pe_str (pa_cons (pe_op op_add pe_int (pe_call C_law_draw.G (hr.mono (by decide)) rfl C_law_draw.m C_law_draw.kp C_law_draw.b .nil pass0 (pa_cons (pv 0) (pa_cons pe_int pa_nil)))) (pa_cons (pe_op op_add (pv 4) (pe_op op_mod (pe_callTy call_int1 (by rfl) T.int_ (by decide +kernel) (pa_cons (pe_op op_add (pv 5) pe_int) pa_nil)) (pv 3))) (pa_cons (pv 6) pa_nil))))) pa_nil)))))))))
      (pss_cons (ps_par (i := 7) (j := 8) (by rfl) sc_law_loops.nd rfl rfl (by decide) rfl rfl (pa_cons (pe_call C_law_one.G (hr.mono (by decide)) rfl C_law_one.m C_law_one.kp C_law_one.b .nil pass0 (pa_cons (pv 0) (pa_cons (pe_lst (pa_cons pe_int (pa_cons pe_int (pa_cons pe_int (pa_cons pe_int (pa_cons pe_int pa_nil)))))) pa_nil))) (pa_cons (pe_tup (pa_cons pe_str (pa_cons pe_str pa_nil))) pa_nil)) (by rfl))
      (pss_cons (ps_set (i := 9) sc_law_loops.nd rfl (Or.inl rfl) (pe_tup (pa_cons pe_str (pa_cons (pv 7) (pa_cons (pe_callTy call_tuple_of (by rfl) T.tuple_ (by decide +kernel) (pa_cons (pe_lc (own := [("_law_k", 5)]) (by rfl) sc_law_loops.nd (pi_range1 rfl T.range_ (pa_cons (pv 7) pa_nil)) (blkOk_by (N := N_law_loops) (sc := defScope s_law_loops) (by decide +kernel)) (fun _ _ _ _ _ => (pg_name (i := 5) sc_law_loops.nd rfl (Or.inl rfl))) (fun _ _ _ _ _ => pts_nil) (fun _ _ _ _ _ => (pe_call C_law_draw.G (hr.mono (by decide)) rfl C_law_draw.m C_law_draw.kp C_law_draw.b .nil pass0 (pa_cons (pv 0) (pa_cons pe_int pa_nil))))) pa_nil)) pa_nil)))))
      (pss_cons (ps_if (pt_cmpR op_eq (pe_callB call_len_seq (by rfl) T.len_ (by decide +kernel) (pa_cons (pv 1) pa_nil)) pe_int (nomark _)) (pss_one (ps_ret (pe_callTy call_tuple_of (by rfl) T.tuple_ (by decide +kernel) (pa_cons (pe_op op_cat (pv 1) (pe_lst (pa_cons (pe_call C_law_one.G (hr.mono (by decide)) rfl C_law_one.m C_law_one.kp C_law_one.b .nil pass0 (pa_cons (pv 0) (pa_cons (pe_lst (pa_cons (pv 9) (pa_cons (pe_tup (pa_cons pe_str (pa_cons pe_str pa_nil))) (pa_cons (pe_tup (pa_cons pe_str (pa_cons pe_str pa_nil))) pa_nil)))) pa_nil))) (pa_cons (pv 8) pa_nil)))) pa_nil)))) pss_nil)
      (pss_one (ps_ret (pe_callTy call_tuple_of (by rfl) T.tuple_ (by decide +kernel) (pa_cons (pe_op op_cat (pv 1) (pe_lst (pa_cons (pe_call C_law_one.G (hr.mono (by decide)) rfl C_law_one.m C_law_one.kp C_law_one.b .nil pass0 (pa_cons (pv 0) (pa_cons (pe_lst (pa_cons (pv 8) (pa_cons (pv 8) (pa_cons (pv 9) (pa_cons (pe_tup (pa_cons pe_str (pa_cons (pe_ifExp (pt_cmpR op_lt (pv 7) pe_int (nomark _)) (pe_op op_sub (pv 7) pe_int) pe_int) (pa_cons (pe_call C_law_draw.G (hr.mono (by decide)) rfl C_law_draw.m C_law_draw.kp C_law_draw.b .nil pass0 (pa_cons (pv 0) (pa_cons pe_int pa_nil))) pa_nil)))) pa_nil))))) pa_nil))) pa_nil))) pa_nil)))))))))), ?_⟩
    have l100 : 100 < sizeLine := by decide
    -- found
    refine ⟨(by show 0 ≤ sizeLine; decide), fun Fo hFo => ?_⟩
    have D0 : Drw d l0 l1 H (upd H Fo (.lst [])) := Drw.same hD (Same.new hFo)
    have nFo := hD.ne hFo
    have eFo : upd H Fo (.lst []) Fo = some (.lst []) := upd_same
    refine ⟨(by show 5 ≤ sizeLine; decide), fun rp0 re0 => ?_⟩
    have rL0 := (Lsts.nil (p := RngP) (Drw.refl D0.k)).snoc re0 (rngOf [1, 1, 1, 1, 1] (by decide) (by decide) (by decide) (by decide) (by decide))
    refine ⟨(by show 3 ≤ sizeLine; decide), fun rp1 re1 => ?_⟩
    have rL1 := rL0.snoc re1 (rngOf [2, 2, 1] (by decide) (by decide) (by decide) (by decide) (by decide))
    refine ⟨(by show 2 ≤ sizeLine; decide), fun rp2 re2 => ?_⟩
    have rL2 := rL1.snoc re2 (rngOf [3, 2] (by decide) (by decide) (by decide) (by decide) (by decide))
    refine ⟨(by show 2 ≤ sizeLine; decide), fun rp3 re3 => ?_⟩
    have rL3 := rL2.snoc re3 (rngOf [4, 1] (by decide) (by decide) (by decide) (by decide) (by decide))
    refine ⟨(by show 1 ≤ sizeLine; decide), fun rp4 re4 => ?_⟩
    have rL4 := rL3.snoc re4 (rngOf [5] (by decide) (by decide) (by decide) (by decide) (by decide))
    refine ⟨(by show 4 ≤ sizeLine; decide), fun rp5 re5 => ?_⟩
    have rL5 := rL4.snoc re5 (rngOf [1, 1, 1, 1] (by decide) (by decide) (by decide) (by decide) (by decide))
    refine ⟨(by show 2 ≤ sizeLine; decide), fun rp6 re6 => ?_⟩
    have rL6 := rL5.snoc re6 (rngOf [2, 2] (by decide) (by decide) (by decide) (by decide) (by decide))
    refine ⟨(by show 2 ≤ sizeLine; decide), fun rp7 re7 => ?_⟩
    have rL7 := rL6.snoc re7 (rngOf [3, 1] (by decide) (by decide) (by decide) (by decide) (by decide))
    refine ⟨(by show 1 ≤ sizeLine; decide), fun rp8 re8 => ?_⟩
    have rL8 := rL7.snoc re8 (rngOf [4] (by decide) (by decide) (by decide) (by decide) (by decide))
    refine ⟨(by show 3 ≤ sizeLine; decide), fun rp9 re9 => ?_⟩
    have rL9 := rL8.snoc re9 (rngOf [1, 1, 2] (by decide) (by decide) (by decide) (by decide) (by decide))
    refine ⟨(by show 10 ≤ sizeLine; decide), fun N hN => ?_⟩
    have S1 := Same.new (o := HO.lst [.ref rp0, .ref rp1, .ref rp2, .ref rp3, .ref rp4, .ref rp5, .ref rp6, .ref rp7, .ref rp8, .ref rp9]) hN
    refine ⟨_, rfl, _, rfl, d, l0, l1, N, _, rfl, rL9.D.k.mono S1, upd_same, rL9.D.k.ne hN, (by show 0 < 10; decide), (by show 10 < 1073741824; decide), fun H2 v D2 hv => ?_⟩
    have D12 := (rL9.D.thn S1).trans D2
    obtain ⟨ra, xs, rfl, hra, nra, zs, rfl, hz1, hz4, hz5, hzl, hzl5⟩ := rL9.got ((Drw.same rL9.D.k S1).trans D2) hv
    have DF := D0.trans D12
    have eFo2 := D12.of nFo eFo
    have nraFo : ra ≠ Fo := fun z => by
      rw [z, eFo2] at hra
      have := HO.lst.inj (Option.some.inj hra)
      cases zs with
      | nil => simp at hzl
      | cons _ _ => cases this
    refine ⟨ra, rfl, ⟨_, SqL.of hra⟩, fun i m σ H' => m = zs.length - i ∧ i ≤ zs.length ∧ ∃ (v3 v4 v5 v6 : Option V) (G : Pg), σ = [some (.ref d), some (.ref Fo), some (.ref N), v3, v4, v5, v6, none, none, none] ∧ Drw d l0 l1 H H' ∧ H' ra = some (.lst (zs.map fun (m : Nat) => V.int (m : Int))) ∧ Bld H' Fo 6 [] G ∧ G.length = (zs.take i).sum,
      ⟨zs.length, rfl, Nat.zero_le _, none, none, none, none, [], rfl, DF, hra, ⟨[], eFo2, rfl, fun j x e => by simp at e, fun x h => nomatch h⟩, rfl⟩, ?_⟩
    rintro i m σ H3 ⟨rfl, hi0, v3, v4, v5, v6, G, rfl, D3, hra3, hB, hG⟩
    by_cases hi : i < zs.length
    · refine .inr ⟨⟨_, _, SqL.of hra3, List.getElem?_eq_getElem (by rw [List.length_map]; exact hi)⟩, _, fun _ _ z => z, fun y H4 hy => ?_⟩
      obtain ⟨rfl, hy⟩ := hy
      have hy2 := hy _ (SqL.of hra3)
      rw [List.getElem?_map, List.getElem?_eq_getElem hi] at hy2
      have ez : zs[i]? = some zs[i] := List.getElem?_eq_getElem hi
      have hzp := hz1 _ (List.getElem_mem hi)
      generalize zs[i] = z at hy2 ez hzp
      obtain rfl : V.int (z : Int) = y := Option.some.inj hy2
      have hsum := sum_take_succ ez
      have hle := sum_take_le zs (i + 1)
      obtain ⟨xs0, hx0, hx0l, _⟩ := hB.pg
      refine ⟨_, rfl, Fo, xs0, rfl, .inl (SqL.of hx0), ?_⟩
      refine ⟨_, rfl, (z : Int), rfl, by omega, by omega, fun j m σ H' => m = z - j ∧ j ≤ z ∧ ∃ (v5 v6 : Option V) (G : Pg), σ = [some (.ref d), some (.ref Fo), some (.ref N), some (.int (z : Int)), some (.int (xs0.length : Int)), v5, v6, none, none, none] ∧ Drw d l0 l1 H H' ∧ H' ra = some (.lst (zs.map fun (m : Nat) => V.int (m : Int))) ∧ Bld H' Fo 6 [] G ∧ G.length = xs0.length + j,
        ⟨z, rfl, Nat.zero_le _, v5, v6, G, rfl, D3, hra3, hB, hx0l.symm⟩, ?_⟩
      rintro j m σ H5 ⟨rfl, hj0, w5, w6, G5, rfl, D5, hra5, hB5, hG5⟩
      by_cases hj : j < z
      · refine .inr ⟨by show j < ((z : Nat) : Int).toNat; omega, _, fun _ _ z => z, fun y H6 hy => ?_⟩
        obtain ⟨rfl, hy⟩ := hy
        rw [Int.zero_add] at hy
        subst hy
        refine ⟨_, rfl, _, rfl, d, l0, l1, 6, rfl, D5.k, by decide, by decide, fun H7 a D7 a0 a1 => ⟨(by show 3 ≤ sizeLine; decide), fun q hq => ?_⟩⟩
        have S7 : Same H7 (upd H7 q (.lst ([a, 4, 5].map V.int))) := Same.new hq
        refine ⟨d, l0, l1, q, [a, 4, 5].map V.int, rfl, D7.k.mono S7, upd_same, D7.k.ne hq, (by show 0 < 3; decide), (by show 3 < 1073741824; decide), fun H8 v D8 hv => ?_⟩
        obtain ⟨oz, hoz, rfl⟩ := memInts hv
        have hoz2 : 0 ≤ oz ∧ oz < 6 := by
          simp only [List.mem_cons, List.not_mem_nil, or_false] at hoz
          omega
        obtain ⟨ot, rfl⟩ := asNat hoz2.1
        have D58 := (D7.thn S7).trans D8
        have hB8 := hB5.draw D5.k D58 nFo
        have hra8 := D58.of nra hra5
        obtain ⟨xs8, hx8, _⟩ := hB8.pg
        refine ⟨_, rfl, .inl ⟨rfl, _, SqL.of hx8⟩, _, rfl, d, l0, l1, 4, rfl, D8.k, by decide, by decide, fun H9 b D9 b0 b1 => ⟨_, _, rfl, rfl, _, rfl, _, rfl, _, _, rfl, rfl, .inl ⟨_, rfl, _, rfl, _, _, rfl, rfl, (by show (0 : Int) < (z : Int); omega), _, _, rfl, rfl, _, rfl, (by show 4 ≤ sizeLine; decide), fun t ht => ?_⟩⟩⟩
        obtain ⟨kk, hkk⟩ : ∃ kk : Nat, 1 + b = (kk : Int) := asNat (by omega)
        have e0 := Int.emod_nonneg ((j : Int) + 1) (show (z : Int) ≠ 0 by omega)
        have e1 := Int.emod_lt_of_pos ((j : Int) + 1) (show (0 : Int) < (z : Int) by omega)
        obtain ⟨to, hto⟩ : ∃ to : Nat, (xs0.length : Int) + ((j : Int) + 1) % (z : Int) = (to : Int) := asNat (by omega)
        have hB9 := hB8.draw D8.k D9 nFo
        have S10 := Same.new (o := HO.tup [.str "take", .int (1 + b), .int ((xs0.length : Int) + ((j : Int) + 1) % (z : Int)), .int (ot : Int)]) ht
        have hB10 := hB9.mono (Same.tups S10) (fun o e => S10 _ _ e)
        have hst : StpAt (upd H9 t (.tup [.str "take", .int (1 + b), .int ((xs0.length : Int) + ((j : Int) + 1) % (z : Int)), .int (ot : Int)])) t (.take kk to ot) := by
          show _ = some (HO.tup [.str "take", .int (kk : Int), .int (to : Int), .int (ot : Int)])
          rw [← hkk, ← hto]
          exact upd_same
        obtain ⟨xs, h1, h2, hB11⟩ := hB10.snoc hst (x := .take kk to ot) ⟨by omega, by omega, by omega, by omega⟩
        refine ⟨Fo, xs, _, rfl, rfl, h1, by omega, z - (j + 1), by omega, rfl, hj, some _, some _, _, rfl, (((D5.trans D58).trans D9).thn S10).put hD hFo, ?_, hB11, by rw [List.length_append, hG5]; rfl⟩
        rw [upd_ne nraFo]
        exact S10 _ _ (D9.of nra hra8)
      · refine .inl ⟨by show ((z : Nat) : Int).toNat ≤ j; omega, ?_⟩
        exact ⟨zs.length - (i + 1), by omega, rfl, hi, some _, some _, w5, w6, G5, rfl, D5, hra5, hB5, by rw [hG5, hsum]; omega⟩
    · refine .inl ⟨⟨_, SqL.of hra3, by rw [List.length_map]; omega⟩, ?_⟩
      have hGl : G.length = zs.sum := by rw [hG, List.take_of_length_le (by omega)]
      -- m, last
      refine ⟨_, rfl, (by show 5 ≤ sizeLine; decide), fun N2 hN2 => ?_⟩
      have S4 : Same H3 (upd H3 N2 (.lst ([2, 3, 4, 5, 6].map V.int))) := Same.new hN2
      refine ⟨d, l0, l1, N2, [2, 3, 4, 5, 6].map V.int, rfl, D3.k.mono S4, upd_same, D3.k.ne hN2, (by show 0 < 5; decide), (by show 5 < 1073741824; decide), fun H5 v D5 hv => ?_⟩
      obtain ⟨mz, hmz, rfl⟩ := memInts hv
      have hmz2 : 2 ≤ mz ∧ mz ≤ 6 := by
        simp only [List.mem_cons, List.not_mem_nil, or_false] at hmz
        omega
      obtain ⟨m, rfl⟩ := asNat (show 0 ≤ mz by omega)
      refine ⟨(by show 2 ≤ sizeLine; decide), fun la hla => ⟨_, _, rfl, ?_⟩⟩
      have S6 := Same.new (o := HO.tup [.str "end", .str "yes"]) hla
      have D6 := (D5.thn S6)
      have D36 := (Drw.same D3.k S4).trans D6
      have hB6 := (hB.draw D3.k D36 nFo).more (ns := [m]) (fun _ h => nomatch h)
      have hla6 : StpAt (upd H5 la (.tup [.str "end", .str "yes"])) la (.fin true) := upd_same
      generalize upd H5 la (.tup [.str "end", .str "yes"]) = H6 at D6 D36 hB6 hla6
      -- rest
      refine ⟨_, rfl, _, rfl, _, rfl, by omega, by omega, fun C hC => ?_⟩
      have D06 := D3.trans D36
      refine lc_range (fun i H' => Drw d l0 l1 H6 H' ∧ ∃ tos : List Nat, H' C = some (.lst (tos.map fun (t : Nat) => V.int (t : Int))) ∧ tos.length = i ∧ ∀ t ∈ tos, t < 6) ⟨Drw.same D36.k (Same.new hC), [], upd_same, rfl, fun t h => absurd h (by simp)⟩ ?_ ?_
      · rintro i H' hi ⟨D11, tos, h1, h2, h3⟩
        refine ⟨rfl, _, rfl, d, l0, l1, _, rfl, D11.k, by decide, by decide, fun H12 j D12 j0 j1 => ?_⟩
        obtain ⟨t, rfl⟩ := asNat j0
        refine ⟨_, D12.of (D36.k.ne hC) h1, by rw [List.length_map, h2]; omega, (D11.trans D12).put D36.k hC, tos ++ [t], ?_, by rw [List.length_append, h2]; rfl, fun x hx => ?_⟩
        · rw [upd_same, List.map_append]
          rfl
        · rcases List.mem_append.mp hx with q | q
          · exact h3 x q
          · rw [List.mem_singleton.mp q]
            omega
      · rintro H7 ⟨D7, tos, h1, h2, h3⟩
        have h2' : tos.length = m := by rw [h2]; omega
        refine ⟨C, _, rfl, .inl ⟨SqL.of h1, fun B hB => ⟨(by show 3 ≤ sizeLine; decide), fun r hr => ?_⟩⟩⟩
        have S8 : Same H7 (upd H7 B (.tup (tos.map fun (t : Nat) => V.int (t : Int)))) := Same.new hB
        have S9 := Same.new (o := HO.tup [.str "rest", .int (m : Int), .ref B]) hr
        have hrs : StpAt (upd (upd H7 B (.tup (tos.map fun (t : Nat) => V.int (t : Int)))) r (.tup [.str "rest", .int (m : Int), .ref B])) r (.rest m tos) := ⟨B, upd_same, new2 hB hr⟩
        have D8 := (D7.thn S8).thn S9
        generalize upd (upd H7 B (.tup (tos.map fun (t : Nat) => V.int (t : Int)))) r (.tup [.str "rest", .int (m : Int), .ref B]) = H8 at hrs D8
        have hB8 := hB6.draw D36.k D8 nFo
        have hla8 := hla6.mono (Drw.tups D36.k D8)
        have D08 := D06.trans D8
        have grs : StpG 6 [m] (.rest m tos) := ⟨List.mem_singleton.mpr rfl, h2', h3⟩
        have fine : ∀ (H9 : Hp) (Gs : Pg) (cs : List Addr) (xs : List V), Drw d l0 l1 H H9 → Bld H9 Fo 6 [m] G → cs.length = Gs.length → (∀ (j : Nat) (x : Stp), Gs[j]? = some x → ∃ c, cs[j]? = some c ∧ StpAt H9 c x) → (∀ x ∈ Gs, StpG 6 [m] x) → G.length + Gs.length = 6 → H9 Fo = some (.lst xs) →
            ∀ o1, H9 o1 = none → ∀ p, upd H9 o1 (.lst (cs.map V.ref)) p = none → ∀ b, upd (upd H9 o1 (.lst (cs.map V.ref))) p (.lst (xs ++ cs.map V.ref)) b = none → Q (.ref b) (upd (upd (upd H9 o1 (.lst (cs.map V.ref))) p (.lst (xs ++ cs.map V.ref))) b (.tup (xs ++ cs.map V.ref))) := by
          intro H9 Gs cs xs D9 hB9 hl hc hg h6 hx o1 ho1 p hp b hb
          have T1 := Same.new (o := HO.lst (cs.map V.ref)) ho1
          have T2 := Same.new (o := HO.lst (xs ++ cs.map V.ref)) hp
          have T3 := Same.new (o := HO.tup (xs ++ cs.map V.ref)) hb
          have T12 := T1.trans T2
          have hB10 := (hB9.mono (Same.tups T12) (fun o e => T12 _ _ e)).cat (p := p) (Gs := Gs) (cs := cs) (T12 _ _ hx) upd_same hl (fun j x e => by
            obtain ⟨c, k1, k2⟩ := hc j x e
            exact ⟨c, k1, k2.mono (Same.tups T12)⟩) hg
          obtain ⟨zs2, q1, q2, q3⟩ := hB10.pg
          rw [upd_same] at q1
          cases q1
          have l6 : (G ++ Gs).length = 6 := by rw [List.length_append]; exact h6
          refine k _ b (G ++ Gs) ((D9.thn T12).thn T3) (q3 _ b (Same.tups T3) upd_same) ?_
          rw [← l6] at hB10
          exact hB10.ok (M := m) (by omega) (by omega) (fun x hx => by
            rw [List.mem_singleton.mp hx]
            exact ⟨by omega, by omega, Nat.dvd_refl _⟩) (by omega) (by omega)
        obtain ⟨xs, hx, hxl, _⟩ := hB8.pg
        refine ⟨_, rfl, Fo, xs, rfl, .inl (SqL.of hx), rfl, _, rfl, itD (fun h4 => ?_) fun h4 => ?_⟩
        · have h4' : xs.length = 4 := Int.ofNat.inj (vint.mp h4)
          refine ⟨_, rfl, _, rfl, _, rfl, (by show 2 ≤ sizeLine; decide), fun t1 ht1 => ⟨(by show 2 ≤ sizeLine; decide), fun t2 ht2 => ⟨(by show 3 ≤ sizeLine; decide), fun N3 hN3 => ?_⟩⟩⟩
          have T1 := Same.new (o := HO.tup [.str "end", .str "no"]) ht1
          have T2 := Same.new (o := HO.tup [.str "end", .str "no"]) ht2
          have T3 := Same.new (o := HO.lst [.ref r, .ref t1, .ref t2]) hN3
          have T := (T1.trans T2).trans T3
          refine ⟨d, l0, l1, N3, [.ref r, .ref t1, .ref t2], rfl, D8.k.mono T, upd_same, (D8.k.mono (T1.trans T2)).ne hN3, (by show 0 < 3; decide), (by show 3 < 1073741824; decide), fun H9 v D9 hv => ?_⟩
          have D10 := (Drw.same D8.k T).trans D9
          have U := (Drw.tups (D8.k.mono T) D9)
          obtain ⟨c, x, rfl, hcx, hgx⟩ : ∃ c x, v = .ref c ∧ StpAt H9 c x ∧ StpG 6 [m] x := by
            simp only [List.mem_cons, List.not_mem_nil, or_false] at hv
            rcases hv with rfl | rfl | rfl
            · exact ⟨r, _, rfl, (hrs.mono (Same.tups T)).mono U, grs⟩
            · exact ⟨t1, .fin false, rfl, StpAt.mono U (x := .fin false) (T3 _ _ (T2 _ _ upd_same)), trivial⟩
            · exact ⟨t2, .fin false, rfl, StpAt.mono U (x := .fin false) (T3 _ _ upd_same), trivial⟩
          have hla10 := hla8.mono (Drw.tups D8.k D10)
          refine ⟨_, rfl, (by show 2 ≤ sizeLine; decide), fun o1 ho1 => ⟨Fo, o1, xs, [.ref c, .ref la], rfl, rfl, (Same.new ho1) _ _ (D10.of nFo hx), upd_same, by show xs.length + 2 ≤ sizeLine; omega, fun p hp => ⟨p, _, rfl, .inl ⟨SqL.of upd_same, fun b hb => ?_⟩⟩⟩⟩
          refine fine H9 [x, .fin true] [c, la] xs (D08.trans D10) (hB8.draw D8.k D10 nFo) rfl (fun j y e => ?_) (fun y hy => ?_) (by show G.length + 2 = 6; omega) (D10.of nFo hx) o1 ho1 p hp b hb
          · match j, e with
            | 0, e => cases e; exact ⟨c, rfl, hcx⟩
            | 1, e => cases e; exact ⟨la, rfl, hla10⟩
          · simp only [List.mem_cons, List.not_mem_nil, or_false] at hy
            rcases hy with rfl | rfl
            · exact hgx
            · trivial
        · have h5 : G.length = 5 := by
            have : xs.length ≠ 4 := fun z => h4 (by rw [z]; rfl)
            omega
          refine ⟨_, rfl, _, rfl, _, rfl, _, rfl, _, rfl, _, rfl, _, _, rfl, rfl, _, rfl, itD (fun hm => ⟨_, rfl, _, _, rfl, rfl, ?_⟩) fun hm => ?_⟩
          · have hm6 : (m : Int) < 6 := hm
            refine ⟨_, rfl, d, l0, l1, 6, rfl, D8.k, by decide, by decide, fun H9 a D9 a0 a1 => ⟨(by show 3 ≤ sizeLine; decide), fun ad had => ⟨(by show 4 ≤ sizeLine; decide), fun N3 hN3 => ?_⟩⟩⟩
            obtain ⟨to, rfl⟩ := asNat a0
            obtain ⟨kk, hkk⟩ : ∃ kk : Nat, (((m : Int) - 1) : Int) = (kk : Int) := asNat (by omega)
            have T1 := Same.new (o := HO.tup [.str "add", .int ((m : Int) - 1), .int (to : Int)]) had
            have T2 := Same.new (o := HO.lst [.ref la, .ref la, .ref r, .ref ad]) hN3
            have T := T1.trans T2
            have hB9 := hB8.draw D8.k D9 nFo
            have U9 := Drw.tups D8.k D9
            refine ⟨d, l0, l1, N3, [.ref la, .ref la, .ref r, .ref ad], rfl, D9.k.mono T, upd_same, (D9.k.mono T1).ne hN3, (by show 0 < 4; decide), (by show 4 < 1073741824; decide), fun H10 v D10 hv => ?_⟩
            have U := (Drw.tups (D9.k.mono T) D10)
            obtain ⟨c, x, rfl, hcx, hgx⟩ : ∃ c x, v = .ref c ∧ StpAt H10 c x ∧ StpG 6 [m] x := by
              simp only [List.mem_cons, List.not_mem_nil, or_false] at hv
              rcases hv with rfl | rfl | rfl | rfl
              · exact ⟨la, .fin true, rfl, ((hla8.mono U9).mono (Same.tups T)).mono U, trivial⟩
              · exact ⟨la, .fin true, rfl, ((hla8.mono U9).mono (Same.tups T)).mono U, trivial⟩
              · exact ⟨r, _, rfl, ((hrs.mono U9).mono (Same.tups T)).mono U, grs⟩
              · refine ⟨ad, .add kk to, rfl, StpAt.mono U (x := .add kk to) (T2 _ _ ?_), by omega, by omega, by omega⟩
                rw [← hkk]
                exact upd_same
            have D11 := (D9.thn T).trans D10
            refine ⟨(by show 1 ≤ sizeLine; decide), fun o1 ho1 => ⟨Fo, o1, xs, [.ref c], rfl, rfl, (Same.new ho1) _ _ (D11.of nFo hx), upd_same, by show xs.length + 1 ≤ sizeLine; omega, fun p hp => ⟨p, _, rfl, .inl ⟨SqL.of upd_same, fun b hb => ?_⟩⟩⟩⟩
            refine fine H10 [x] [c] xs (D08.trans D11) (hB8.draw D8.k D11 nFo) rfl (fun j y e => ?_) (fun y hy => ?_) (by show G.length + 1 = 6; omega) (D11.of nFo hx) o1 ho1 p hp b hb
            · match j, e with
              | 0, e => cases e; exact ⟨c, rfl, hcx⟩
            · rw [List.mem_singleton.mp hy]
              exact hgx
          · refine ⟨_, rfl, d, l0, l1, 6, rfl, D8.k, by decide, by decide, fun H9 a D9 a0 a1 => ⟨(by show 3 ≤ sizeLine; decide), fun ad had => ⟨(by show 4 ≤ sizeLine; decide), fun N3 hN3 => ?_⟩⟩⟩
            obtain ⟨to, rfl⟩ := asNat a0
            obtain ⟨kk, hkk⟩ : ∃ kk : Nat, (1 : Int) = (kk : Int) := asNat (by omega)
            have T1 := Same.new (o := HO.tup [.str "add", .int 1, .int (to : Int)]) had
            have T2 := Same.new (o := HO.lst [.ref la, .ref la, .ref r, .ref ad]) hN3
            have T := T1.trans T2
            have hB9 := hB8.draw D8.k D9 nFo
            have U9 := Drw.tups D8.k D9
            refine ⟨d, l0, l1, N3, [.ref la, .ref la, .ref r, .ref ad], rfl, D9.k.mono T, upd_same, (D9.k.mono T1).ne hN3, (by show 0 < 4; decide), (by show 4 < 1073741824; decide), fun H10 v D10 hv => ?_⟩
            have U := (Drw.tups (D9.k.mono T) D10)
            obtain ⟨c, x, rfl, hcx, hgx⟩ : ∃ c x, v = .ref c ∧ StpAt H10 c x ∧ StpG 6 [m] x := by
              simp only [List.mem_cons, List.not_mem_nil, or_false] at hv
              rcases hv with rfl | rfl | rfl | rfl
              · exact ⟨la, .fin true, rfl, ((hla8.mono U9).mono (Same.tups T)).mono U, trivial⟩
              · exact ⟨la, .fin true, rfl, ((hla8.mono U9).mono (Same.tups T)).mono U, trivial⟩
              · exact ⟨r, _, rfl, ((hrs.mono U9).mono (Same.tups T)).mono U, grs⟩
              · refine ⟨ad, .add kk to, rfl, StpAt.mono U (x := .add kk to) (T2 _ _ ?_), by omega, by omega, by omega⟩
                rw [← hkk]
                exact upd_same
            have D11 := (D9.thn T).trans D10
            refine ⟨(by show 1 ≤ sizeLine; decide), fun o1 ho1 => ⟨Fo, o1, xs, [.ref c], rfl, rfl, (Same.new ho1) _ _ (D11.of nFo hx), upd_same, by show xs.length + 1 ≤ sizeLine; omega, fun p hp => ⟨p, _, rfl, .inl ⟨SqL.of upd_same, fun b hb => ?_⟩⟩⟩⟩
            refine fine H10 [x] [c] xs (D08.trans D11) (hB8.draw D8.k D11 nFo) rfl (fun j y e => ?_) (fun y hy => ?_) (by show G.length + 1 = 6; omega) (D11.of nFo hx) o1 ho1 p hp b hb
            · match j, e with
              | 0, e => cases e; exact ⟨c, rfl, hcx⟩
            · rw [List.mem_singleton.mp hy]
              exact hgx
end
end K53
end

section
set_option Elab.async false
set_option linter.all false
set_option maxRecDepth 100000
set_option maxHeartbeats 4000000
/-! K53: any program; the law's free way round. -/
namespace K53
open PySem PySem.Spec PyProof.Rows L2
open K53M (Stp Pg S)
section
variable {P : Program} {w : World} {K : PySem.W.Frag} {mg : Str → Option Value} {base : Heap} {f : Addr} {fd : FuncData} {cR cY cW : Addr} {tN : Tok}
theorem ok_law_any (T : Txt K mg cR cY cW tN) (F : FnP K "_law_any" "_law_any" s_law_any f fd) {f1 fd1 f2 fd2 f3 fd3} (C_law_draw : CalOk P w K mg base "_law_draw" 1 ["_law_deck_here", "_law_many"] spDraw f1 fd1) (C_law_loops : CalOk P w K mg base "_law_loops" 4 ["_law_deck_here"] spPg f2 fd2)
    (C_law_program : CalOk P w K mg base "_law_program" 4 ["_law_deck_here"] spPg f3 fd3) : FnOk P w K mg base CX0 5 f fd ["_law_deck_here"] spPg := by
  refine F.ok sc_law_any (fun vs H Q E h => ?_) (fun cdv A outer s0 H vs Q E hr h => ?_)
  · obtain ⟨d, l0, l1, rfl, _⟩ := h
    rfl
  · obtain ⟨d, l0, l1, rfl, hD, k⟩ := h
    refine ⟨_, PSs.nox (pss_one (ps_ret (pe_ifExp (pt_cmpR op_eq (pe_call C_law_draw.G (hr.mono (by decide)) rfl C_law_draw.m C_law_draw.kp C_law_draw.b .nil pass0 (pa_cons (pv 0) (pa_cons pe_int pa_nil))) pe_int (nomark _)) (pe_call C_law_loops.G (hr.mono (by decide)) rfl C_law_loops.m C_law_loops.kp C_law_loops.b .nil pass0 (pa_cons (pv 0) pa_nil)) (pe_call C_law_program.G (hr.mono (by decide)) rfl C_law_program.m C_law_program.kp C_law_program.b .nil pass0 (pa_cons (pv 0) pa_nil))))), ?_⟩
    refine ⟨_, rfl, d, l0, l1, 4, rfl, hD, by decide, by decide, fun H1 i D1 _ _ => ⟨rfl, _, rfl, ?_⟩⟩
    exact itD (fun _ => ⟨_, rfl, d, l0, l1, rfl, D1.k, fun H2 b G D2 hG o => k H2 b G (D1.trans D2) hG o⟩) fun _ => ⟨_, rfl, d, l0, l1, rfl, D1.k, fun H2 b G D2 hG o => k H2 b G (D1.trans D2) hG o⟩
def spLF : Sp := fun vs H Q _ => ∃ (a : Addr) (G : Pg) (M p n : Nat) (c : Int), vs = [.ref a, .int (p : Int), .int c, .int (M : Int)] ∧ PgAt H a G ∧ K53M.Ok G M ∧ p < G.length ∧ K53M.IsRound G M (p, c) n ∧
  ∀ (H' : Hp) (t : Addr), Same H H' → H' t = some (.tup [.int (n : Int), .int (K53M.fallN G (p, c) n), .int (K53M.needN G (p, c) n)]) → Q (.ref t) H'
theorem ok_law_free (T : Txt K mg cR cY cW tN) (F : FnP K "_law_free" "_law_free" s_law_free f fd) : FnOk P w K mg base CX0 1 f fd ["_law_program_here", "_law_place", "_law_counter", "_law_size_here"] spLF := by
  refine F.ok sc_law_free (fun vs H Q E h => ?_) (fun cdv A outer s0 H vs Q E hr h => ?_)
  · obtain ⟨a, G, M, p, n, c, rfl, _⟩ := h
    rfl
  · obtain ⟨a, G, M, p, n, c, rfl, hG, o, hp, hR, k⟩ := h
    refine ⟨_, PSs.nox (pss_cons (ps_asg (pe_tup (pa_cons (pv 1) (pa_cons pe_int (pa_cons pe_int (pa_cons (pe_op op_mod (pe_callTy call_int1 (by rfl) T.int_ (by decide +kernel) (pa_cons (pv 2) pa_nil)) (pv 3)) pa_nil))))) (pg_tup rfl (pgs_cons (pg_name (i := 4) sc_law_free.nd rfl (Or.inl rfl)) (pgs_cons (pg_name (i := 5) sc_law_free.nd rfl (Or.inl rfl)) (pgs_cons (pg_name (i := 6) sc_law_free.nd rfl (Or.inl rfl)) (pgs_cons (pg_name (i := 7) sc_law_free.nd rfl (Or.inl rfl)) pgs_nil))))))
      (pss_cons (ps_for PassesOwn.never rfl (pi_range2 (by rfl) T.range_ (pa_cons pe_int (pa_cons pe_int pa_nil))) (pg_name (i := 8) sc_law_free.nd rfl (Or.inl rfl)) (pss_cons (ps_set (i := 9) sc_law_free.nd rfl (Or.inl rfl) (pe_ix ix_tup (pv 0) (pv 4) (fun _ _ => rfl)))
      (pss_cons (ps_if (pt_cmpR op_eq (pe_ix ix_tup (pv 9) pe_int (fun _ _ => rfl)) pe_str (nomark _)) (pss_one (ps_set (i := 4) sc_law_free.nd rfl (Or.inl rfl) (pe_ix ix_tup (pe_ix ix_tup (pv 9) pe_int (fun _ _ => rfl)) (pe_op op_mod (pe_callTy call_int1 (by rfl) T.int_ (by decide +kernel) (pa_cons (pe_op op_sub (pv 7) (pv 5)) pa_nil)) (pe_ix ix_tup (pv 9) pe_int (fun _ _ => rfl))) (fun _ _ => rfl)))) (pss_one (ps_if (pt_cmpR op_eq (pe_ix ix_tup (pv 9) pe_int (fun _ _ => rfl)) pe_str (nomark _)) (pss_one (ps_par (i := 4) (j := 5) (by rfl) sc_law_free.nd rfl rfl (by decide) rfl rfl (pa_cons (pe_ix ix_tup (pv 9) pe_int (fun _ _ => rfl)) (pa_cons (pe_op op_sub (pv 5) (pe_ix ix_tup (pv 9) pe_int (fun _ _ => rfl))) pa_nil)) (by rfl))) (pss_one (ps_par3 (i := 6) (j := 4) (l := 5) (by rfl) sc_law_free.nd rfl rfl rfl (by decide) (by decide) (by decide) rfl rfl rfl (pa_cons (pe_callB (call_max2 rfl) (by rfl) T.max_ (by decide +kernel) (pa_cons (pe_callTy call_int1 (by rfl) T.int_ (by decide +kernel) (pa_cons (pv 6) pa_nil)) (pa_cons (pe_callTy call_int1 (by rfl) T.int_ (by decide +kernel) (pa_cons (pe_op op_add (pv 5) (pe_ix ix_tup (pv 9) pe_int (fun _ _ => rfl))) pa_nil)) pa_nil))) (pa_cons (pe_ix ix_tup (pv 9) pe_int (fun _ _ => rfl)) (pa_cons (pe_op op_add (pv 5) (pe_ix ix_tup (pv 9) pe_int (fun _ _ => rfl))) pa_nil))) (by rfl))))))
      (pss_one (ps_if (PW.pt (pw_and (pt_cmpR op_eq (pv 4) (pv 1) (nomark _)) (pw_and1 (pt_cmpR op_eq (pe_op op_mod (pe_callTy call_int1 (by rfl) T.int_ (by decide +kernel) (pa_cons (pv 5) pa_nil)) (pv 3)) pe_int (nomark _))))) (pss_one (ps_ret (pe_tup (pa_cons (pv 8) (pa_cons (pv 5) (pa_cons (pv 6) pa_nil)))))) pss_nil)))))
      (pss_one (ps_ret (pe_tup (pa_cons pe_int (pa_cons pe_int (pa_cons pe_int pa_nil)))))))), ?_⟩
    have m1 := o.m1
    have n36 : n ≤ 36 := Nat.le_trans (o.round_le hp hR) o.le36
    have npos := hR.pos
    refine ⟨_, rfl, _, rfl, .inl ⟨_, rfl, _, rfl, _, _, rfl, rfl, (by show (0 : Int) < (M : Int); omega), (by show 4 ≤ sizeLine; decide), fun t ht => ⟨t, _, rfl, SqT.of upd_same, rfl, _, _, rfl, _, _, rfl, _, _, rfl, _, _, rfl, rfl, ?_⟩⟩⟩
    refine ⟨1, 40, rfl, ⟨by decide, by decide, by decide, by decide⟩, fun i m σ H' => m = 39 - i ∧ Same H H' ∧ i < n ∧ ∃ v8 v9 : Option V, σ = [some (.ref a), some (.int (p : Int)), some (.int c), some (.int (M : Int)), some (.int (((K53M.frN G i (p, c)).1 : Nat) : Int)), some (.int (K53M.fallN G (p, c) i)), some (.int (K53M.needN G (p, c) i)), some (.int (c % (M : Int))), v8, v9],
      ⟨39, rfl, Same.new ht, by omega, none, none, ?_⟩, ?_⟩
    · have e2 : K53M.fallN G (p, c) 0 = 0 := by
        show c - c = 0
        omega
      rw [e2]
      rfl
    · rintro i m σ H1 ⟨rfl, hS, hin, v8, v9, rfl⟩
      refine .inr ⟨by show i < ((40 : Int) - 1).toNat; have : ((40 : Int) - 1).toNat = 39 := rfl; omega, _, fun _ _ z => z, fun y H2 hy => ?_⟩
      obtain ⟨rfl, rfl⟩ := hy
      obtain ⟨as, h1, h2, h3⟩ := id (hG.mono (Same.tups hS))
      have hF : (K53M.frN G i (p, c)).1 < G.length := o.frN_lt i hp
      have hE := hR.noend i hin
      generalize hFi : K53M.frN G i (p, c) = Fi at hF hE ⊢
      obtain ⟨b, e1, e2⟩ := h3 Fi.1 G[Fi.1] (List.getElem?_eq_getElem hF)
      have eG : G[Fi.1]? = some G[Fi.1] := List.getElem?_eq_getElem hF
      generalize hx : G[Fi.1] = x at e2 eG
      have ok := o.st _ _ eG
      have hfin : ∀ w, x ≠ .fin w := fun w z => by
        unfold K53M.isEnd at hE
        rw [eG, z] at hE
        cases hE
      have hfr : K53M.frN G (i + 1) (p, c) = ((K53M.freeX x Fi.2).1, Fi.2 + (K53M.freeX x Fi.2).2) := by
        rw [K53M.frN_succ, hFi]
        exact K53M.free_X eG hfin
      have hf0 : K53M.fallN G (p, c) i = c - Fi.2 := by
        unfold K53M.fallN
        rw [hFi]
      have hf1 : K53M.fallN G (p, c) (i + 1) = c - (Fi.2 + (K53M.freeX x Fi.2).2) := by
        unfold K53M.fallN
        rw [hfr]
      have hneed : ∀ k1 to ot, x = .take k1 to ot → K53M.needN G (p, c) (i + 1) = max (K53M.needN G (p, c) i) ((k1 : Int) + (c - Fi.2)) := fun k1 to ot e => by
        show (match G[(K53M.frN G i (p, c)).1]? with
          | some (.take k _ _) => max (K53M.needN G (p, c) i) ((k : Int) + ((p, c).2 - (K53M.frN G i (p, c)).2))
          | _ => K53M.needN G (p, c) i) = _
        rw [hFi, eG, e]
      have hneed0 : (∀ k1 to ot, x ≠ .take k1 to ot) → K53M.needN G (p, c) (i + 1) = K53M.needN G (p, c) i := fun e => by
        show (match G[(K53M.frN G i (p, c)).1]? with
          | some (.take k _ _) => max (K53M.needN G (p, c) i) ((k : Int) + ((p, c).2 - (K53M.frN G i (p, c)).2))
          | _ => K53M.needN G (p, c) i) = _
        rw [hFi, eG]
        cases x with
        | take k1 to ot => exact absurd rfl (e k1 to ot)
        | _ => rfl
      have hbeg : ∀ lo : Int, lo = K53M.fallN G (p, c) (i + 1) → (K53M.Beg M (K53M.frN G (i + 1) (p, c)) (p, c) ↔ (K53M.frN G (i + 1) (p, c)).1 = p ∧ lo % (M : Int) = 0) := fun lo e => by
        rw [e]
        unfold K53M.Beg K53M.fallN
        constructor
        · rintro ⟨z1, z2⟩
          refine ⟨z1, Int.emod_eq_zero_of_dvd ?_⟩
          have := Int.dvd_neg.mpr z2
          rwa [Int.neg_sub] at this
        · rintro ⟨z1, z2⟩
          refine ⟨z1, ?_⟩
          have := Int.dvd_neg.mpr (Int.dvd_of_emod_eq_zero z2)
          rwa [Int.neg_sub] at this
      have hnot : ¬ K53M.Beg M (K53M.frN G (i + 1) (p, c)) (p, c) → i + 1 < n := fun z => by
        rcases Nat.lt_or_ge (i + 1) n with q | q
        · exact q
        · have : i + 1 = n := by omega
          rw [this] at z
          exact absurd hR.ret z
      obtain ⟨rr, er⟩ := e2.word (K := K)
      refine ⟨_, rfl, _, rfl, a, _, _, _, rfl, rfl, SqT.of h1, atI_nat (by rw [List.getElem?_map, e1]; rfl), ?_⟩
      refine ⟨_, rfl, b, _, _, _, rfl, rfl, SqT.of er, atI0, rfl, _, rfl, itD (fun he => ?_) fun he => ?_⟩
      · obtain ⟨m, tos, rfl⟩ : ∃ m tos, x = .rest m tos := by
          cases x with
          | fin w => exact absurd (vstr.mp he) ne_end_rest
          | add k1 to => exact absurd (vstr.mp he) ne_add_rest
          | take k1 to ot => exact absurd (vstr.mp he) ne_take_rest
          | rest m1 tos => exact ⟨m1, tos, rfl⟩
        obtain ⟨bt, f1, f2⟩ := e2
        have f1 : H2 b = some (.tup [.str "rest", .int (m : Int), .ref bt]) := f1
        obtain ⟨g1, g2, g3, g4, g5⟩ := ok
        have hmod : (c % (M : Int) - K53M.fallN G (p, c) i) % (m : Int) = Fi.2 % (m : Int) := by
          obtain ⟨q, hq⟩ := g5
          have e := Int.mul_ediv_add_emod c (M : Int)
          have e2 : c % (M : Int) - K53M.fallN G (p, c) i = Fi.2 + (m : Int) * (-((q : Int) * (c / (M : Int)))) := by
            have e3 : (M : Int) * (c / (M : Int)) = (m : Int) * ((q : Int) * (c / (M : Int))) := by rw [hq, Int.natCast_mul, Int.mul_assoc]
            rw [hf0, Int.mul_neg]
            omega
          rw [e2, Int.add_mul_emod_self_left]
        have a0 : 0 ≤ Fi.2 % (m : Int) := Int.emod_nonneg _ (by omega)
        have a1 : Fi.2 % (m : Int) < (m : Int) := Int.emod_lt_of_pos _ (by omega)
        have hat : atI (tos.map fun (t : Nat) => V.int (t : Int)) ((c % (M : Int) - K53M.fallN G (p, c) i) % (m : Int)) = some (.int ((tos.getD (Fi.2 % (m : Int)).toNat 0 : Nat) : Int)) := by
          have hj : (Fi.2 % (m : Int)).toNat < tos.length := by omega
          have e : (c % (M : Int) - K53M.fallN G (p, c) i) % (m : Int) = (((Fi.2 % (m : Int)).toNat : Nat) : Int) := by rw [hmod]; omega
          refine (congrArg (atI _) e).trans (atI_nat ?_)
          rw [List.getElem?_map, List.getElem?_eq_getElem hj, List.getD_eq_getElem?_getD, List.getElem?_eq_getElem hj]
          rfl
        refine ⟨_, rfl, b, _, _, _, rfl, rfl, SqT.of f1, atI2, _, rfl, _, rfl, _, _, rfl, rfl, .inl ⟨_, rfl, _, rfl, b, _, _, _, rfl, rfl, SqT.of f1, atI1, _, _, rfl, rfl, (by show (0 : Int) < (m : Int); omega), bt, _, _, _, rfl, rfl, SqT.of f2, hat, ?_⟩⟩
        have hX : ((tos.getD (Fi.2 % (m : Int)).toNat 0 : Nat) : Int) = (((K53M.frN G (i + 1) (p, c)).1 : Nat) : Int) := by
          rw [hfr]
          rfl
        have hL : K53M.fallN G (p, c) i = K53M.fallN G (p, c) (i + 1) := by
          rw [hf0, hf1]
          show c - Fi.2 = c - (Fi.2 + 0)
          omega
        have hN := (hneed0 fun k1 to ot z => by cases z).symm
        refine ⟨_, rfl, _, rfl, rfl, _, rfl, itD (fun hh => ?_) fun hh => ?_⟩
        · have hh : ((((tos.getD (Fi.2 % (m : Int)).toNat 0 : Nat) : Int) : Int)) = (p : Int) := vint.mp hh
          refine ⟨_, rfl, .inl ⟨_, rfl, _, rfl, _, _, rfl, rfl, (by show (0 : Int) < (M : Int); omega), rfl, _, rfl, itD (fun h2 => ?_) fun h2 => ?_⟩⟩
          · have h2 : ((K53M.fallN G (p, c) i) : Int) % (M : Int) = 0 := vint.mp h2
            have hb : K53M.Beg M (K53M.frN G (i + 1) (p, c)) (p, c) := (hbeg (K53M.fallN G (p, c) i) hL).mpr ⟨Int.ofNat.inj (hX.symm.trans hh), h2⟩
            have ei : i + 1 = n := by
              rcases Nat.lt_or_ge (i + 1) n with z | z
              · exact absurd hb (hR.first (i + 1) (by omega) z)
              · omega
            refine ⟨_, rfl, _, rfl, _, rfl, (by show 3 ≤ sizeLine; decide), fun t ht => k _ t (hS.trans (Same.new ht)) ?_⟩
            rw [upd_same, ← ei, ← hL, ← hN, show ((i + 1 : Nat) : Int) = 1 + (i : Int) by omega]
          · have h2 : ¬ ((K53M.fallN G (p, c) i) : Int) % (M : Int) = 0 := fun z => h2 (vint.mpr z)
            have hlt := hnot fun z => h2 ((hbeg (K53M.fallN G (p, c) i) hL).mp z).2
            refine ⟨39 - (i + 1), by omega, rfl, hS, hlt, some (.int (1 + (i : Int))), some (.ref b), ?_⟩
            rw [← hL, ← hN, ← hX]
            rfl
        · have hh : ¬ ((((tos.getD (Fi.2 % (m : Int)).toNat 0 : Nat) : Int) : Int)) = (p : Int) := fun z => hh (vint.mpr z)
          have hlt := hnot fun z => hh (by rw [hX, ((hbeg (K53M.fallN G (p, c) i) hL).mp z).1])
          refine ⟨39 - (i + 1), by omega, rfl, hS, hlt, some (.int (1 + (i : Int))), some (.ref b), ?_⟩
          rw [← hL, ← hN, ← hX]
          rfl
      · refine ⟨_, rfl, b, _, _, _, rfl, rfl, SqT.of er, atI0, rfl, _, rfl, itD (fun ha => ?_) fun ha => ?_⟩
        · obtain ⟨k1, to, rfl⟩ : ∃ k1 to, x = .add k1 to := by
            cases x with
            | fin w => exact absurd (vstr.mp ha) ne_end_add
            | add k1 to => exact ⟨k1, to, rfl⟩
            | take k1 to ot => exact absurd (vstr.mp ha) ne_take_add
            | rest m1 tos => exact absurd (vstr.mp ha) ne_rest_add
          have e2 : H2 b = some (.tup [.str "add", .int (k1 : Int), .int (to : Int)]) := e2
          refine ⟨_, rfl, b, _, _, _, rfl, rfl, SqT.of e2, atI2, _, rfl, _, rfl, b, _, _, _, rfl, rfl, SqT.of e2, atI1, _, _, rfl, rfl, _, _, rfl, ?_⟩
          have hX : ((to : Nat) : Int) = (((K53M.frN G (i + 1) (p, c)).1 : Nat) : Int) := by
            rw [hfr]
            rfl
          have hL : K53M.fallN G (p, c) i - (k1 : Int) = K53M.fallN G (p, c) (i + 1) := by
            rw [hf0, hf1]
            show c - Fi.2 - _ = c - (Fi.2 + (k1 : Int))
            omega
          have hN := (hneed0 fun k1 to ot z => by cases z).symm
          refine ⟨_, rfl, _, rfl, rfl, _, rfl, itD (fun hh => ?_) fun hh => ?_⟩
          · have hh : ((((to : Nat) : Int) : Int)) = (p : Int) := vint.mp hh
            refine ⟨_, rfl, .inl ⟨_, rfl, _, rfl, _, _, rfl, rfl, (by show (0 : Int) < (M : Int); omega), rfl, _, rfl, itD (fun h2 => ?_) fun h2 => ?_⟩⟩
            · have h2 : ((K53M.fallN G (p, c) i - (k1 : Int)) : Int) % (M : Int) = 0 := vint.mp h2
              have hb : K53M.Beg M (K53M.frN G (i + 1) (p, c)) (p, c) := (hbeg (K53M.fallN G (p, c) i - (k1 : Int)) hL).mpr ⟨Int.ofNat.inj (hX.symm.trans hh), h2⟩
              have ei : i + 1 = n := by
                rcases Nat.lt_or_ge (i + 1) n with z | z
                · exact absurd hb (hR.first (i + 1) (by omega) z)
                · omega
              refine ⟨_, rfl, _, rfl, _, rfl, (by show 3 ≤ sizeLine; decide), fun t ht => k _ t (hS.trans (Same.new ht)) ?_⟩
              rw [upd_same, ← ei, ← hL, ← hN, show ((i + 1 : Nat) : Int) = 1 + (i : Int) by omega]
            · have h2 : ¬ ((K53M.fallN G (p, c) i - (k1 : Int)) : Int) % (M : Int) = 0 := fun z => h2 (vint.mpr z)
              have hlt := hnot fun z => h2 ((hbeg (K53M.fallN G (p, c) i - (k1 : Int)) hL).mp z).2
              refine ⟨39 - (i + 1), by omega, rfl, hS, hlt, some (.int (1 + (i : Int))), some (.ref b), ?_⟩
              rw [← hL, ← hN, ← hX]
              rfl
          · have hh : ¬ ((((to : Nat) : Int) : Int)) = (p : Int) := fun z => hh (vint.mpr z)
            have hlt := hnot fun z => hh (by rw [hX, ((hbeg (K53M.fallN G (p, c) i - (k1 : Int)) hL).mp z).1])
            refine ⟨39 - (i + 1), by omega, rfl, hS, hlt, some (.int (1 + (i : Int))), some (.ref b), ?_⟩
            rw [← hL, ← hN, ← hX]
            rfl
        · obtain ⟨k1, to, ot, rfl⟩ : ∃ k1 to ot, x = .take k1 to ot := by
            cases x with
            | fin w => exact absurd rfl (hfin w)
            | add k1 to => exact absurd rfl ha
            | take k1 to ot => exact ⟨k1, to, ot, rfl⟩
            | rest m1 tos => exact absurd rfl he
          have e2 : H2 b = some (.tup [.str "take", .int (k1 : Int), .int (to : Int), .int (ot : Int)]) := e2
          refine ⟨_, rfl, .inl ⟨_, rfl, _, rfl, _, rfl, b, _, _, _, rfl, rfl, SqT.of e2, atI1, _, _, rfl, rfl, .inl ⟨_, rfl, _, _, rfl, ?_⟩⟩⟩
          rw [max_if]
          refine ⟨_, rfl, b, _, _, _, rfl, rfl, SqT.of e2, atI2, _, rfl, _, rfl, b, _, _, _, rfl, rfl, SqT.of e2, atI1, _, _, rfl, rfl, _, _, _, rfl, ?_⟩
          have hX : ((to : Nat) : Int) = (((K53M.frN G (i + 1) (p, c)).1 : Nat) : Int) := by
            rw [hfr]
            rfl
          have hL : K53M.fallN G (p, c) i + (k1 : Int) = K53M.fallN G (p, c) (i + 1) := by
            rw [hf0, hf1]
            show c - Fi.2 + _ = c - (Fi.2 + (0 - (k1 : Int)))
            omega
          have hN : max (K53M.needN G (p, c) i) (K53M.fallN G (p, c) i + (k1 : Int)) = K53M.needN G (p, c) (i + 1) := by
            rw [hneed _ _ _ rfl, hf0, Int.add_comm]
          refine ⟨_, rfl, _, rfl, rfl, _, rfl, itD (fun hh => ?_) fun hh => ?_⟩
          · have hh : ((((to : Nat) : Int) : Int)) = (p : Int) := vint.mp hh
            refine ⟨_, rfl, .inl ⟨_, rfl, _, rfl, _, _, rfl, rfl, (by show (0 : Int) < (M : Int); omega), rfl, _, rfl, itD (fun h2 => ?_) fun h2 => ?_⟩⟩
            · have h2 : ((K53M.fallN G (p, c) i + (k1 : Int)) : Int) % (M : Int) = 0 := vint.mp h2
              have hb : K53M.Beg M (K53M.frN G (i + 1) (p, c)) (p, c) := (hbeg (K53M.fallN G (p, c) i + (k1 : Int)) hL).mpr ⟨Int.ofNat.inj (hX.symm.trans hh), h2⟩
              have ei : i + 1 = n := by
                rcases Nat.lt_or_ge (i + 1) n with z | z
                · exact absurd hb (hR.first (i + 1) (by omega) z)
                · omega
              refine ⟨_, rfl, _, rfl, _, rfl, (by show 3 ≤ sizeLine; decide), fun t ht => k _ t (hS.trans (Same.new ht)) ?_⟩
              rw [upd_same, ← ei, ← hL, ← hN, show ((i + 1 : Nat) : Int) = 1 + (i : Int) by omega]
            · have h2 : ¬ ((K53M.fallN G (p, c) i + (k1 : Int)) : Int) % (M : Int) = 0 := fun z => h2 (vint.mpr z)
              have hlt := hnot fun z => h2 ((hbeg (K53M.fallN G (p, c) i + (k1 : Int)) hL).mp z).2
              refine ⟨39 - (i + 1), by omega, rfl, hS, hlt, some (.int (1 + (i : Int))), some (.ref b), ?_⟩
              rw [← hL, ← hN, ← hX]
              rfl
          · have hh : ¬ ((((to : Nat) : Int) : Int)) = (p : Int) := fun z => hh (vint.mpr z)
            have hlt := hnot fun z => hh (by rw [hX, ((hbeg (K53M.fallN G (p, c) i + (k1 : Int)) hL).mp z).1])
            refine ⟨39 - (i + 1), by omega, rfl, hS, hlt, some (.int (1 + (i : Int))), some (.ref b), ?_⟩
            rw [← hL, ← hN, ← hX]
            rfl
end
end K53
end

section
set_option Elab.async false
set_option linter.all false
set_option maxRecDepth 100000
set_option maxHeartbeats 4000000
/-! K53: the law's own run. -/
namespace K53
open PySem PySem.Spec PyProof.Rows L2
open K53M (Stp Pg S)
/-! ### the table of begins -/
def kyI (k : Nat × Int) : List Key := [.inl (k.1 : Int), .inl k.2]
theorem kyI_inj {a b : Nat × Int} (h : kyI a = kyI b) : a = b := ky_inj h
def encS (l : List (Nat × Int)) : List (List Key × V) := l.map fun x => (kyI x, V.bl true)
theorem encS_some {s : Nat × Int} {v : V} : ∀ {l : List (Nat × Int)}, valV (encS l) (kyI s) = some v → s ∈ l
  | [], h => by cases h
  | x :: r, h => by
    by_cases e : kyI x = kyI s
    · rw [kyI_inj e]
      exact List.mem_cons_self
    · have h2 : valV (encS (x :: r)) (kyI s) = valV (encS r) (kyI s) := valV_neg (p := (kyI x, V.bl true)) e
      rw [h2] at h
      exact List.mem_cons_of_mem _ (encS_some h)
theorem encS_none {s : Nat × Int} : ∀ {l : List (Nat × Int)}, valV (encS l) (kyI s) = none → ¬ s ∈ l
  | [], h, m => by cases m
  | x :: r, h, m => by
    by_cases e : kyI x = kyI s
    · have h2 : valV (encS (x :: r)) (kyI s) = some (V.bl true) := valV_pos (p := (kyI x, V.bl true)) e
      rw [h2] at h
      cases h
    · have h2 : valV (encS (x :: r)) (kyI s) = valV (encS r) (kyI s) := valV_neg (p := (kyI x, V.bl true)) e
      rw [h2] at h
      rcases List.mem_cons.mp m with q | q
      · exact e (by rw [q])
      · exact encS_none h q
theorem encS_snoc {s : Nat × Int} {l : List (Nat × Int)} (h : valV (encS l) (kyI s) = none) : putK (encS l) (kyI s) (V.bl true) = encS (l ++ [s]) := by
  rw [putK_new _ h]
  unfold encS
  rw [List.map_append]
  rfl
/-! ### the table of refusals: its values are tuples -/
def encT (l : List (S × Nat × Addr)) : List (List Key × V) := l.map fun x => (ky x.1, V.ref x.2.2)
def lowT (l : List (S × Nat × Addr)) : List (S × Nat) := l.map fun x => (x.1, x.2.1)
def TOk (H : Hp) (l : List (S × Nat × Addr)) (r : Int) (g : Nat) : Prop := ∀ x ∈ l, ∃ rz : Int, H x.2.2 = some (.tup [.int (x.2.1 : Int), .int rz]) ∧ rz ≤ r ∧ r - rz ≤ (g : Int) - (x.2.1 : Int)
theorem encT_some {s : S} {v : V} : ∀ {l : List (S × Nat × Addr)}, valV (encT l) (ky s) = some v → ∃ g a, (s, g, a) ∈ l ∧ v = .ref a
  | [], h => by cases h
  | (x, g, a) :: r, h => by
    by_cases e : ky x = ky s
    · have h2 : valV (encT ((x, g, a) :: r)) (ky s) = some (V.ref a) := valV_pos (p := (ky x, V.ref a)) e
      rw [h2] at h
      cases h
      rw [ky_inj e]
      exact ⟨g, a, List.mem_cons_self, rfl⟩
    · have h2 : valV (encT ((x, g, a) :: r)) (ky s) = valV (encT r) (ky s) := valV_neg (p := (ky x, V.ref a)) e
      rw [h2] at h
      obtain ⟨c0, b, m, q⟩ := encT_some h
      exact ⟨c0, b, List.mem_cons_of_mem _ m, q⟩
theorem encT_none {s : S} : ∀ {l : List (S × Nat × Addr)}, valV (encT l) (ky s) = none → ∀ g, ¬ (s, g) ∈ lowT l
  | [], h, c0, m => by cases m
  | (x, g, a) :: r, h, c0, m => by
    by_cases e : ky x = ky s
    · have h2 : valV (encT ((x, g, a) :: r)) (ky s) = some (V.ref a) := valV_pos (p := (ky x, V.ref a)) e
      rw [h2] at h
      cases h
    · have h2 : valV (encT ((x, g, a) :: r)) (ky s) = valV (encT r) (ky s) := valV_neg (p := (ky x, V.ref a)) e
      rw [h2] at h
      rcases List.mem_cons.mp m with q | q
      · exact e (by rw [(Prod.mk.inj q).1])
      · exact encT_none h c0 q
theorem encT_snoc {s : S} {g : Nat} {a : Addr} {l : List (S × Nat × Addr)} (h : valV (encT l) (ky s) = none) : putK (encT l) (ky s) (V.ref a) = encT (l ++ [(s, g, a)]) := by
  rw [putK_new _ h]
  unfold encT
  rw [List.map_append]
  rfl
theorem TOk.mono {H H' : Hp} {l : List (S × Nat × Addr)} {r : Int} {g : Nat} (h : TOk H l r g) (t : Tups H H') : TOk H' l r g := fun x hx => by
  obtain ⟨rz, e, b⟩ := h x hx
  exact ⟨rz, t _ _ e, b⟩
theorem TOk.le {H : Hp} {l : List (S × Nat × Addr)} {r r' : Int} {g g' : Nat} (h : TOk H l r g) (h1 : r ≤ r') (h2 : (g : Int) - r ≤ (g' : Int) - r') : TOk H l r' g' := fun x hx => by
  obtain ⟨rz, e, b1, b2⟩ := h x hx
  exact ⟨rz, e, by omega, by omega⟩
/-- a thing made since is written -/
theorem Same.put {H H' : Hp} {p : Addr} {o : HO} (s : Same H H') (hp : H p = none) : Same H (upd H' p o) := fun b u e => by
  rw [upd_ne (ne_of_none e hp)]
  exact s b u e
theorem Same.none {H H' : Hp} {p : Addr} (s : Same H H') (h : H' p = none) : H p = none := by
  cases e : H p with
  | none => rfl
  | some u =>
    rw [s _ _ e] at h
    cases h
/-- what stands at the begin of a turn -/
structure LSt (G : Pg) (M cnt : Nat) (Post : S → Nat → Prop) (H H' : Hp) (i k : Nat) (s : S) (g : Nat) (seen : List (Nat × Int)) (T : List (S × Nat × Addr)) (sd ld : Addr) (r : Int) : Prop where
  ik : i + k = 5712
  lt : K53M.LTerm G M cnt Post k s g seen (lowT T)
  gc : g ≤ cnt
  pl : s.1 < G.length
  sl : seen.length ≤ i
  tl : T.length ≤ i
  sm : Same H H'
  sn : H sd = none
  ln : H ld = none
  ne : sd ≠ ld
  es : H' sd = some (.dT (encS seen))
  el : H' ld = some (.dT (encT T))
  tk : TOk H' T r g
  rb : 0 ≤ r ∧ r ≤ (g : Int)
section
variable {P : Program} {w : World} {K : PySem.W.Frag} {mg : Str → Option Value} {base : Heap} {f : Addr} {fd : FuncData} {cR cY cW : Addr} {tN : Tok}
def spRun : Sp := fun vs H Q _ => ∃ (a : Addr) (G : Pg) (c : Int) (cnt : Nat), vs = [.ref a, .int c, .int (cnt : Int)] ∧ PgAt H a G ∧ K53M.Ok G (K53M.roundM G) ∧ 0 ≤ c ∧ cnt ≤ 10 ^ 30 ∧
  ∀ (H' : Hp) (t : Addr) (s : S) (g : Nat) (r : Int), Same H H' → H' t = some (.tup [.int (s.1 : Int), .int s.2, .int (g : Int), .int r]) → K53M.RPost G (0, c) cnt s g → Q (.ref t) H'
theorem ok_law_run (T : Txt K mg cR cY cW tN) (F : FnP K "_law_run" "_law_run" s_law_run f fd) {f1 fd1 f2 fd2} (C_law_size : CalOk P w K mg base "_law_size" 2 ["_law_program_here"] spRM f1 fd1) (C_law_free : CalOk P w K mg base "_law_free" 1 ["_law_program_here", "_law_place", "_law_counter", "_law_size_here"] spLF f2 fd2) :
    FnOk P w K mg base CX0 3 f fd ["_law_program_here", "_law_number_here", "_law_count"] spRun := by
  refine F.ok sc_law_run (fun vs H Q E h => ?_) (fun cdv A outer s0 H vs Q E hr h => ?_)
  · obtain ⟨a, G, c, cnt, rfl, _⟩ := h
    rfl
  · obtain ⟨a, G, c, cnt, rfl, hG, o, c0, hcnt, k⟩ := h
    refine ⟨_, PSs.nox (pss_cons (ps_set (i := 3) sc_law_run.nd rfl (Or.inl rfl) (pe_call C_law_size.G (hr.mono (by decide)) rfl C_law_size.m C_law_size.kp C_law_size.b .nil pass0 (pa_cons (pv 0) pa_nil)))
      (pss_cons (ps_asg (pe_tup (pa_cons pe_int (pa_cons (pv 1) (pa_cons pe_int (pa_cons pe_int (pa_cons pe_dnewT (pa_cons pe_dnewT pa_nil))))))) (pg_tup rfl (pgs_cons (pg_name (i := 4) sc_law_run.nd rfl (Or.inl rfl)) (pgs_cons (pg_name (i := 5) sc_law_run.nd rfl (Or.inl rfl)) (pgs_cons (pg_name (i := 6) sc_law_run.nd rfl (Or.inl rfl)) (pgs_cons (pg_name (i := 7) sc_law_run.nd rfl (Or.inl rfl)) (pgs_cons (pg_name (i := 8) sc_law_run.nd rfl (Or.inl rfl)) (pgs_cons (pg_name (i := 9) sc_law_run.nd rfl (Or.inl rfl)) pgs_nil))))))))
      (pss_cons (ps_for PassesOwn.never rfl (pi_range1 rfl T.range_ (pa_cons pe_int pa_nil)) (pg_name (i := 10) sc_law_run.nd rfl (Or.inl rfl)) (pss_cons (ps_if (PW.pt (pw_or (pt_cmpR op_eq (pv 6) (pv 2) (nomark _)) (pw_or1 (pt_cmpR op_eq (pe_ix ix_tup (pe_ix ix_tup (pv 0) (pv 4) (fun _ _ => rfl)) pe_int (fun _ _ => rfl)) pe_str (nomark _))))) (pss_one ps_break) pss_nil)
      (pss_cons (ps_par (i := 11) (j := 12) (by rfl) sc_law_run.nd rfl rfl (by decide) rfl rfl (pa_cons (pe_ix ix_tup (pv 0) (pv 4) (fun _ _ => rfl)) (pa_cons (pe_tup (pa_cons (pv 4) (pa_cons (pe_op op_mod (pe_callTy call_int1 (by rfl) T.int_ (by decide +kernel) (pa_cons (pv 5) pa_nil)) (pv 3)) pa_nil))) pa_nil)) (by rfl))
      (pss_cons (ps_if (pt_cmp (pc_din (hu_of hr) (pv 12) (pv 8)) rfl) (pss_cons (ps_asg (pe_call C_law_free.G (hr.mono (by decide)) rfl C_law_free.m C_law_free.kp C_law_free.b .nil pass0 (pa_cons (pv 0) (pa_cons (pv 4) (pa_cons (pv 5) (pa_cons (pv 3) pa_nil))))) (pg_tup rfl (pgs_cons (pg_name (i := 13) sc_law_run.nd rfl (Or.inl rfl)) (pgs_cons (pg_name (i := 14) sc_law_run.nd rfl (Or.inl rfl)) (pgs_cons (pg_name (i := 15) sc_law_run.nd rfl (Or.inl rfl)) pgs_nil)))))
      (pss_cons (ps_set (i := 16) sc_law_run.nd rfl (Or.inl rfl) (pe_op op_fdivW (pe_op op_sub (pv 2) (pv 6)) (pv 13)))
      (pss_cons (ps_if (pt_cmpR op_gt (pv 14) pe_int (nomark _)) (pss_one (ps_set (i := 16) sc_law_run.nd rfl (Or.inl rfl) (pe_callB (call_max2 rfl) (by rfl) T.max_ (by decide +kernel) (pa_cons pe_int (pa_cons (pe_callB (call_min2 rfl) (by rfl) T.min_ (by decide +kernel) (pa_cons (pe_callTy call_int1 (by rfl) T.int_ (by decide +kernel) (pa_cons (pv 16) pa_nil)) (pa_cons (pe_callTy call_int1 (by rfl) T.int_ (by decide +kernel) (pa_cons (pe_op op_add (pe_op op_fdivW (pe_op op_sub (pv 5) (pv 15)) (pv 14)) pe_int) pa_nil)) pa_nil))) pa_nil))))) pss_nil)
      (pss_cons (ps_par3 (i := 5) (j := 6) (l := 8) (by rfl) sc_law_run.nd rfl rfl rfl (by decide) (by decide) (by decide) rfl rfl rfl (pa_cons (pe_op op_sub (pv 5) (pe_op op_mulW (pv 16) (pv 14))) (pa_cons (pe_op op_add (pv 6) (pe_op op_mulW (pv 16) (pv 13))) (pa_cons pe_dnewT pa_nil))) (by rfl))
      (pss_one ps_continue))))) pss_nil)
      (pss_cons (ps_asg (pe_tup (pa_cons pe_bl (pa_cons (pe_op op_add (pv 6) pe_int) pa_nil))) (pg_tup rfl (pgs_cons (pg_sub (pv 8) (pv 12) (set_dict (hu_of hr))) (pgs_cons (pg_name (i := 6) sc_law_run.nd rfl (Or.inl rfl)) pgs_nil))))
      (pss_one (ps_if (pt_cmpR op_eq (pe_ix ix_tup (pv 11) pe_int (fun _ _ => rfl)) pe_str (nomark _)) (pss_one (ps_set (i := 4) sc_law_run.nd rfl (Or.inl rfl) (pe_ix ix_tup (pe_ix ix_tup (pv 11) pe_int (fun _ _ => rfl)) (pe_op op_mod (pe_callTy call_int1 (by rfl) T.int_ (by decide +kernel) (pa_cons (pv 5) pa_nil)) (pe_ix ix_tup (pv 11) pe_int (fun _ _ => rfl))) (fun _ _ => rfl)))) (pss_one (ps_if (pt_cmpR op_eq (pe_ix ix_tup (pv 11) pe_int (fun _ _ => rfl)) pe_str (nomark _)) (pss_one (ps_par (i := 4) (j := 5) (by rfl) sc_law_run.nd rfl rfl (by decide) rfl rfl (pa_cons (pe_ix ix_tup (pv 11) pe_int (fun _ _ => rfl)) (pa_cons (pe_op op_add (pv 5) (pe_ix ix_tup (pv 11) pe_int (fun _ _ => rfl))) pa_nil)) (by rfl))) (pss_one (ps_if (pt_cmpR op_ge (pv 5) (pe_ix ix_tup (pv 11) pe_int (fun _ _ => rfl)) (nomark _)) (pss_one (ps_par (i := 4) (j := 5) (by rfl) sc_law_run.nd rfl rfl (by decide) rfl rfl (pa_cons (pe_ix ix_tup (pv 11) pe_int (fun _ _ => rfl)) (pa_cons (pe_op op_sub (pv 5) (pe_ix ix_tup (pv 11) pe_int (fun _ _ => rfl))) pa_nil)) (by rfl))) (pss_cons (ps_par3 (i := 4) (j := 7) (l := 8) (by rfl) sc_law_run.nd rfl rfl rfl (by decide) (by decide) (by decide) rfl rfl rfl (pa_cons (pe_ix ix_tup (pv 11) pe_int (fun _ _ => rfl)) (pa_cons (pe_op op_add (pv 7) pe_int) (pa_cons pe_dnewT pa_nil))) (by rfl))
      (pss_one (ps_if (pt_cmp (pc_din (hu_of hr) (pe_tup (pa_cons (pv 4) (pa_cons (pv 5) pa_nil))) (pv 9)) rfl) (pss_cons (ps_par (i := 13) (j := 17) (by rfl) sc_law_run.nd rfl rfl (by decide) rfl rfl (pa_cons (pe_op op_sub (pv 6) (pe_ix ix_tup (pe_dget (hu_of hr) (pv 9) (pe_tup (pa_cons (pv 4) (pa_cons (pv 5) pa_nil))) (fun _ _ => rfl)) pe_int (fun _ _ => rfl))) (pa_cons (pe_op op_sub (pv 7) (pe_ix ix_tup (pe_dget (hu_of hr) (pv 9) (pe_tup (pa_cons (pv 4) (pa_cons (pv 5) pa_nil))) (fun _ _ => rfl)) pe_int (fun _ _ => rfl))) pa_nil)) (by rfl))
      (pss_cons (ps_set (i := 16) sc_law_run.nd rfl (Or.inl rfl) (pe_op op_fdivW (pe_op op_sub (pv 2) (pv 6)) (pv 13)))
      (pss_one (ps_par3 (i := 6) (j := 7) (l := 9) (by rfl) sc_law_run.nd rfl rfl rfl (by decide) (by decide) (by decide) rfl rfl rfl (pa_cons (pe_op op_add (pv 6) (pe_op op_mulW (pv 16) (pv 13))) (pa_cons (pe_op op_add (pv 7) (pe_op op_mulW (pv 16) (pv 17))) (pa_cons pe_dnewT pa_nil))) (by rfl))))) (pss_one (ps_dput (hu_of hr) (pv 9) (pe_tup (pa_cons (pv 4) (pa_cons (pv 5) pa_nil))) (pe_tup (pa_cons (pv 6) (pa_cons (pv 7) pa_nil))) rfl))))))))))))))))
      (pss_one (ps_ret (pe_tup (pa_cons (pv 4) (pa_cons (pv 5) (pa_cons (pv 6) (pa_cons (pv 7) pa_nil)))))))))), ?_⟩
    have big : 10000 < sizeLine := by decide
    refine ⟨_, rfl, a, G, rfl, hG, o, ?_⟩
    have hrun := o.lawrun (s0 := (0, c)) o.l1 c0 cnt
    generalize hM : K53M.roundM G = M at *
    have m1 := o.m1
    -- place, counter, gone, refused, seen, low
    refine ⟨_, rfl, fun sd hsd => fun ld hld => ⟨(by show 6 ≤ sizeLine; decide), fun t ht => ⟨t, _, rfl, SqT.of upd_same, rfl, _, _, rfl, _, _, rfl, _, _, rfl, _, _, rfl, _, _, rfl, _, _, rfl, rfl, ?_⟩⟩⟩
    refine ⟨9000, rfl, by decide, by decide, fun i m σ H' => m = 9000 - i ∧ ∃ (k : Nat) (s : S) (g : Nat) (seen : List (Nat × Int)) (tb : List (S × Nat × Addr)) (sd ld : Addr) (r : Int) (v10 v11 v12 v13 v14 v15 v16 v17 : Option V), LSt G M cnt (K53M.RPost G (0, c) cnt) H H' i k s g seen tb sd ld r ∧ σ = [some (.ref a), some (.int c), some (.int (cnt : Int)), some (.int (M : Int)), some (.int (s.1 : Int)), some (.int s.2), some (.int (g : Int)), some (.int r), some (.ref sd), some (.ref ld), v10, v11, v12, v13, v14, v15, v16, v17],
      ⟨9000, rfl, 5712, (0, c), 0, [], [], sd, ld, 0, none, none, none, none, none, none, none, none, ?_, rfl⟩, ?_⟩
    · have n1 : sd ≠ ld := ne_of_none upd_same hld
      have S1 : Same H (upd H sd (.dT [])) := Same.new hsd
      refine ⟨rfl, hrun, Nat.zero_le _, o.l1, Nat.le_refl _, Nat.le_refl _, (S1.trans (Same.new hld)).trans (Same.new ht), hsd, ?_, n1, ?_, ?_, (fun x h => nomatch h), ⟨Int.le_refl _, Int.le_refl _⟩⟩
      · rwa [upd_ne n1.symm] at hld
      · exact (Same.new ht) _ _ ((Same.new hld) _ _ upd_same)
      · exact (Same.new ht) _ _ upd_same
    · rintro i m σ H1 ⟨rfl, k1, s, g, seen, tb, sd, ld, r, v10, v11, v12, v13, v14, v15, v16, v17, L, rfl⟩
      cases k1 with
      | zero => exact L.lt.elim
      | succ k1 =>
        have hik := L.ik
        refine .inr ⟨by show i < ((9000 : Int)).toNat; have : (9000 : Int).toNat = 9000 := rfl; omega, _, fun _ _ z => z, fun y H2 hy => ?_⟩
        obtain ⟨rfl, hy⟩ := hy
        rw [Int.zero_add] at hy
        subst hy
        obtain ⟨hpost, hgo⟩ := L.lt
        have hG1 := hG.mono (Same.tups L.sm)
        obtain ⟨as, h1, h2, h3⟩ := id hG1
        have hpl := L.pl
        obtain ⟨b, e1, e2⟩ := h3 s.1 G[s.1] (List.getElem?_eq_getElem hpl)
        have eG : G[s.1]? = some G[s.1] := List.getElem?_eq_getElem hpl
        generalize hx : G[s.1] = x at e2 eG
        have ok := o.st _ _ eG
        obtain ⟨rr, er⟩ := e2.word (K := K)
        have hat : atI (as.map V.ref) (s.1 : Int) = some (.ref b) := atI_nat (by rw [List.getElem?_map, e1]; rfl)
        refine ⟨_, rfl, _, rfl, rfl, _, rfl, itD (fun he => ?_) fun he => ?_⟩
        · -- all gone
          have hgc : g = cnt := Int.ofNat.inj (vint.mp he)
          exact ⟨_, rfl, _, rfl, _, rfl, _, rfl, (by show 4 ≤ sizeLine; decide), fun t ht => k _ t s g r (L.sm.trans (Same.new ht)) upd_same (hpost (.inl hgc))⟩
        have hgc : g < cnt := by
          have h5 := L.gc
          have : g ≠ cnt := fun z => he (by rw [z])
          omega
        refine ⟨_, rfl, _, rfl, a, _, _, _, rfl, rfl, SqT.of h1, hat, b, _, _, _, rfl, rfl, SqT.of er, atI0, rfl, _, rfl, ?_⟩
        rw [isEnd_dec eG]
        cases hE : K53M.isEnd G s.1 with
        | true => exact ⟨_, rfl, _, rfl, _, rfl, _, rfl, (by show 4 ≤ sizeLine; decide), fun t ht => k _ t s g r (L.sm.trans (Same.new ht)) upd_same (hpost (.inr hE))⟩
        | false =>
          obtain ⟨hseen, hnew⟩ := hgo hgc hE
          -- step, key
          refine ⟨_, rfl, _, rfl, a, _, _, _, rfl, rfl, SqT.of h1, hat, _, rfl, _, rfl, .inl ⟨_, rfl, _, rfl, _, _, rfl, rfl, (by show (0 : Int) < (M : Int); omega), (by show 2 ≤ sizeLine; decide), fun kt hkt => ⟨_, _, rfl, ?_⟩⟩⟩
          have S2 := Same.new (o := HO.tup [.int (s.1 : Int), .int (s.2 % (M : Int))]) hkt
          have ekt : upd H2 kt (.tup [.int (s.1 : Int), .int (s.2 % (M : Int))]) kt = some (.tup ((kyI (K53M.keyN M s)).map kV)) := upd_same
          have es2 := S2 _ _ L.es
          have el2 := S2 _ _ L.el
          have tk2 := L.tk.mono (Same.tups S2)
          have sm2 := L.sm.trans S2
          have hG2 := hG1.mono (Same.tups S2)
          have eb2 := e2.mono (Same.tups S2)
          generalize upd H2 kt (.tup [.int (s.1 : Int), .int (s.2 % (M : Int))]) = H3 at *
          refine ⟨_, rfl, _, rfl, sd, _, rfl, DGet.t (k := kyI (K53M.keyN M s)) es2 ekt, _, rfl, ?_⟩
          cases hval : valV (encS seen) (kyI (K53M.keyN M s)) with
          | some v0 =>
            obtain ⟨n, n36, hR, _, hnext⟩ := hseen (encS_some hval)
            refine iteT ?_
            obtain ⟨hf1, hf2, _⟩ := o.fall_sz hpl hR
            have npos := hR.pos
            refine ⟨_, rfl, _, rfl, _, rfl, _, rfl, a, G, M, s.1, n, s.2, rfl, hG2, o, hpl, hR, fun H4 ft S3 hft => ?_⟩
            refine ⟨ft, _, rfl, SqT.of hft, rfl, _, _, rfl, _, _, rfl, _, _, rfl, rfl, ?_⟩
            have hnB : (n : Int).natAbs < 2 ^ 10 := by have : (2 : Nat) ^ 10 = 1024 := rfl; omega
            have hfB : (K53M.fallN G s n).natAbs < 2 ^ 10 := by have : (2 : Nat) ^ 10 = 1024 := rfl; omega
            refine ⟨_, rfl, _, rfl, _, _, rfl, rfl, _, rfl, _, _, rfl, rfl, wide_div (b := 10) (by omega) hnB (by decide) (by decide), ?_⟩
            have hq0 : ((cnt : Int) - (g : Int)) / (n : Int) = ((((cnt - g) / n : Nat)) : Int) := by
              rw [Int.natCast_ediv, Int.natCast_sub (by omega)]
            have hqle : (cnt - g) / n * n ≤ cnt - g := Nat.div_mul_le_self _ _
            have hqle2 : (cnt - g) / n ≤ cnt - g := Nat.div_le_self _ _
            have hw0 : 0 ≤ K53M.lw G s n (cnt - g) := by
              unfold K53M.lw
              generalize (cnt - g) / n = q
              split <;> omega
            have hwq : (K53M.lw G s n (cnt - g)).toNat ≤ (cnt - g) / n := by
              unfold K53M.lw
              generalize (cnt - g) / n = q
              split <;> omega
            have hle : g + (K53M.lw G s n (cnt - g)).toNat * n ≤ cnt := by
              have := Nat.mul_le_mul_right n hwq
              omega
            have hlwB : (K53M.lw G s n (cnt - g)).natAbs < 2 ^ 200 := by
              have h200 : (10 : Nat) ^ 30 < 2 ^ 200 := by decide
              omega
            refine ⟨_, rfl, _, _, rfl, rfl, _, rfl, itD (fun hf => ?_) fun hf => ?_⟩
            · have hf : 0 < K53M.fallN G s n := hf
              refine ⟨_, rfl, .inl ⟨_, rfl, _, rfl, _, rfl, _, _, rfl, rfl, _, rfl, _, _, rfl, rfl, wide_div (b := 10) hf hfB (by decide) (by decide), _, _, rfl, rfl, .inl ⟨_, rfl, _, _, rfl, _, _, rfl, ?_⟩⟩⟩
              rw [min_if, max_if]
              -- times = tz
              have htz : ((max 0 (min (((cnt : Int) - (g : Int)) / (n : Int)) ((s.2 - K53M.needN G s n) / K53M.fallN G s n + 1))) : Int) = K53M.lw G s n (cnt - g) := (by unfold K53M.lw; rw [if_pos hf, hq0]; rfl)
              have hlw0 : 0 ≤ K53M.lw G s n (cnt - g) := hw0
              have hg2 : ((g + (K53M.lw G s n (cnt - g)).toNat * n : Nat) : Int) = (g : Int) + (max 0 (min (((cnt : Int) - (g : Int)) / (n : Int)) ((s.2 - K53M.needN G s n) / K53M.fallN G s n + 1))) * (n : Int) := by
                rw [htz, Int.natCast_add, Int.natCast_mul, Int.toNat_of_nonneg hlw0]
              have hcm1 : CMulW ((max 0 (min (((cnt : Int) - (g : Int)) / (n : Int)) ((s.2 - K53M.needN G s n) / K53M.fallN G s n + 1)))) (K53M.fallN G s n) := wide_mul (a := 200) (b := 10) (by rw [htz]; exact hlwB) hfB (by decide) (by decide) (by decide)
              have hcm2 : CMulW ((max 0 (min (((cnt : Int) - (g : Int)) / (n : Int)) ((s.2 - K53M.needN G s n) / K53M.fallN G s n + 1)))) (n : Int) := wide_mul (a := 200) (b := 10) (by rw [htz]; exact hlwB) hnB (by decide) (by decide) (by decide)
              refine ⟨_, rfl, _, rfl, _, rfl, _, _, rfl, rfl, hcm1, _, _, rfl, rfl, _, rfl, _, rfl, _, rfl, _, _, rfl, rfl, hcm2, _, _, rfl, rfl, fun sd2 hsd2 => ⟨_, _, _, rfl, ?_⟩⟩
              refine ⟨9000 - (i + 1), by omega, rfl, k1, (s.1, s.2 - K53M.lw G s n (cnt - g) * K53M.fallN G s n), g + (K53M.lw G s n (cnt - g)).toNat * n, [], tb, sd2, ld, r, some (.int (i : Int)), some (.ref b), some (.ref kt), some (.int (n : Int)), some (.int (K53M.fallN G s n)), some (.int (K53M.needN G s n)), some (.int (max 0 (min (((cnt : Int) - (g : Int)) / (n : Int)) ((s.2 - K53M.needN G s n) / K53M.fallN G s n + 1)))), v17, ?_, ?_⟩
              · have S5 := Same.new (o := HO.dT []) hsd2
                have S04 := sm2.trans S3
                refine ⟨by omega, hnext, hle, hpl, Nat.zero_le _, Nat.le_succ_of_le L.tl, S04.trans S5, Same.none S04 hsd2, L.ln, ?_, upd_same, S5 _ _ (S3 _ _ el2), ((tk2.mono (Same.tups S3)).mono (Same.tups S5)).le (Int.le_refl _) (by omega), ⟨L.rb.1, by have := L.rb.2; omega⟩⟩
                exact (ne_of_none (S3 _ _ el2) hsd2).symm
              · show _ = [some (V.ref a), some (.int c), some (.int (cnt : Int)), some (.int (M : Int)), some (.int (s.1 : Int)), some (.int (s.2 - K53M.lw G s n (cnt - g) * K53M.fallN G s n)), some (.int ((g + (K53M.lw G s n (cnt - g)).toNat * n : Nat) : Int)), some (.int r), some (.ref sd2), some (.ref ld), some (.int (i : Int)), some (.ref b), some (.ref kt), some (.int (n : Int)), some (.int (K53M.fallN G s n)), some (.int (K53M.needN G s n)), some (.int (max 0 (min (((cnt : Int) - (g : Int)) / (n : Int)) ((s.2 - K53M.needN G s n) / K53M.fallN G s n + 1)))), v17]
                rw [hg2, ← htz]
                rfl
            · have hf : ¬ 0 < K53M.fallN G s n := hf
              -- times = tz
              have htz : ((((cnt : Int) - (g : Int)) / (n : Int)) : Int) = K53M.lw G s n (cnt - g) := (by unfold K53M.lw; rw [if_neg hf, hq0])
              have hlw0 : 0 ≤ K53M.lw G s n (cnt - g) := hw0
              have hg2 : ((g + (K53M.lw G s n (cnt - g)).toNat * n : Nat) : Int) = (g : Int) + (((cnt : Int) - (g : Int)) / (n : Int)) * (n : Int) := by
                rw [htz, Int.natCast_add, Int.natCast_mul, Int.toNat_of_nonneg hlw0]
              have hcm1 : CMulW ((((cnt : Int) - (g : Int)) / (n : Int))) (K53M.fallN G s n) := wide_mul (a := 200) (b := 10) (by rw [htz]; exact hlwB) hfB (by decide) (by decide) (by decide)
              have hcm2 : CMulW ((((cnt : Int) - (g : Int)) / (n : Int))) (n : Int) := wide_mul (a := 200) (b := 10) (by rw [htz]; exact hlwB) hnB (by decide) (by decide) (by decide)
              refine ⟨_, rfl, _, rfl, _, rfl, _, _, rfl, rfl, hcm1, _, _, rfl, rfl, _, rfl, _, rfl, _, rfl, _, _, rfl, rfl, hcm2, _, _, rfl, rfl, fun sd2 hsd2 => ⟨_, _, _, rfl, ?_⟩⟩
              refine ⟨9000 - (i + 1), by omega, rfl, k1, (s.1, s.2 - K53M.lw G s n (cnt - g) * K53M.fallN G s n), g + (K53M.lw G s n (cnt - g)).toNat * n, [], tb, sd2, ld, r, some (.int (i : Int)), some (.ref b), some (.ref kt), some (.int (n : Int)), some (.int (K53M.fallN G s n)), some (.int (K53M.needN G s n)), some (.int (((cnt : Int) - (g : Int)) / (n : Int))), v17, ?_, ?_⟩
              · have S5 := Same.new (o := HO.dT []) hsd2
                have S04 := sm2.trans S3
                refine ⟨by omega, hnext, hle, hpl, Nat.zero_le _, Nat.le_succ_of_le L.tl, S04.trans S5, Same.none S04 hsd2, L.ln, ?_, upd_same, S5 _ _ (S3 _ _ el2), ((tk2.mono (Same.tups S3)).mono (Same.tups S5)).le (Int.le_refl _) (by omega), ⟨L.rb.1, by have := L.rb.2; omega⟩⟩
                exact (ne_of_none (S3 _ _ el2) hsd2).symm
              · show _ = [some (V.ref a), some (.int c), some (.int (cnt : Int)), some (.int (M : Int)), some (.int (s.1 : Int)), some (.int (s.2 - K53M.lw G s n (cnt - g) * K53M.fallN G s n)), some (.int ((g + (K53M.lw G s n (cnt - g)).toNat * n : Nat) : Int)), some (.int r), some (.ref sd2), some (.ref ld), some (.int (i : Int)), some (.ref b), some (.ref kt), some (.int (n : Int)), some (.int (K53M.fallN G s n)), some (.int (K53M.needN G s n)), some (.int (((cnt : Int) - (g : Int)) / (n : Int))), v17]
                rw [hg2, ← htz]
                rfl
          | none =>
            have hns := encS_none hval
            obtain ⟨hnr, hre⟩ := hnew hns
            refine iteF ?_
            -- seen[key], gone = True, gone + 1
            refine ⟨_, rfl, _, _, rfl, rfl, (by show 2 ≤ sizeLine; decide), fun t2 ht2 => ?_⟩
            have S4 := Same.new (o := HO.tup [.bl true, .int ((g : Int) + 1)]) ht2
            refine ⟨t2, _, rfl, SqT.of upd_same, rfl, _, _, rfl, _, rfl, _, rfl, sd, _, rfl, DPut.t (k := kyI (K53M.keyN M s)) (S4 _ _ es2) (S4 _ _ ekt) (by have := L.sl; unfold encS; rw [List.length_map]; omega), _, _, rfl, rfl, ?_⟩
            rw [encS_snoc hval]
            have es4 := S4 _ _ es2
            have T5 : Tups H3 (upd (upd H3 t2 (.tup [.bl true, .int ((g : Int) + 1)])) sd (.dT (encS (seen ++ [K53M.keyN M s])))) := (Same.tups S4).trans (Tups.upd es4 (fun _ z => by cases z))
            have sm5 := Same.put (o := .dT (encS (seen ++ [K53M.keyN M s]))) (sm2.trans S4) L.sn
            have es5 : upd (upd H3 t2 (.tup [.bl true, .int ((g : Int) + 1)])) sd (.dT (encS (seen ++ [K53M.keyN M s]))) sd = some (.dT (encS (seen ++ [K53M.keyN M s]))) := upd_same
            have el5 : upd (upd H3 t2 (.tup [.bl true, .int ((g : Int) + 1)])) sd (.dT (encS (seen ++ [K53M.keyN M s]))) ld = some (.dT (encT tb)) := by
              rw [upd_ne L.ne.symm]
              exact S4 _ _ el2
            have tk5 := tk2.mono T5
            have eb5 := eb2.mono T5
            generalize upd (upd H3 t2 (.tup [.bl true, .int ((g : Int) + 1)])) sd (.dT (encS (seen ++ [K53M.keyN M s]))) = H5 at *
            have hpl5 := o.step_lt hpl
            have hrb := L.rb
            have Lst : K53M.isRef G s = false → LSt G M cnt (K53M.RPost G (0, c) cnt) H H5 (i + 1) k1 (K53M.step G s) (g + 1) (seen ++ [K53M.keyN M s]) tb sd ld r := fun hf =>
              ⟨by omega, hnr hf, hgc, hpl5, by have := L.sl; rw [List.length_append]; show seen.length + 1 ≤ i + 1; omega, Nat.le_succ_of_le L.tl, sm5, L.sn, L.ln, L.ne, es5, el5, tk5.le (Int.le_refl _) (by omega), ⟨hrb.1, by omega⟩⟩
            have nx : ∀ (s' : S), K53M.isRef G s = false → K53M.step G s = s' → ∃ m' : Nat, m' < 9000 - i ∧ (m' = 9000 - (i + 1) ∧ ∃ (k : Nat) (s : S) (g' : Nat) (seen : List (Nat × Int)) (tb : List (S × Nat × Addr)) (sd' ld' : Addr) (r' : Int) (v10 v11 v12 w13 w14 w15 w16 w17 : Option V), LSt G M cnt (K53M.RPost G (0, c) cnt) H H5 (i + 1) k s g' seen tb sd' ld' r' ∧
                [some (.ref a), some (.int c), some (.int (cnt : Int)), some (.int (M : Int)), some (V.int (s'.1 : Int)), some (.int s'.2), some (.int ((g : Int) + 1)), some (.int r), some (.ref sd), some (.ref ld), some (.int (i : Int)), some (.ref b), some (.ref kt), v13, v14, v15, v16, v17] = [some (.ref a), some (.int c), some (.int (cnt : Int)), some (.int (M : Int)), some (.int (s.1 : Int)), some (.int s.2), some (.int (g' : Int)), some (.int r'), some (.ref sd'), some (.ref ld'), v10, v11, v12, w13, w14, w15, w16, w17]) :=
              fun s' hf e => ⟨9000 - (i + 1), by omega, rfl, k1, K53M.step G s, g + 1, _, tb, sd, ld, r, _, _, _, _, _, _, _, _, Lst hf, by rw [e]; rfl⟩
            obtain ⟨r5, er5⟩ := eb5.word (K := K)
            refine ⟨_, rfl, b, _, _, _, rfl, rfl, SqT.of er5, atI0, rfl, _, rfl, itD (fun he => ?_) fun he => ?_⟩
            · obtain ⟨m, tos, rfl⟩ : ∃ m tos, x = .rest m tos := by
                cases x with
                | fin w => exact absurd (vstr.mp he) ne_end_rest
                | add k1 to => exact absurd (vstr.mp he) ne_add_rest
                | take k1 to ot => exact absurd (vstr.mp he) ne_take_rest
                | rest m1 tos => exact ⟨m1, tos, rfl⟩
              obtain ⟨bt, f1, f2⟩ := eb5
              obtain ⟨g1, g2, g3, g4, g5⟩ := ok
              have a0 : 0 ≤ s.2 % (m : Int) := Int.emod_nonneg _ (by omega)
              have a1 : s.2 % (m : Int) < (m : Int) := Int.emod_lt_of_pos _ (by omega)
              have hat2 : atI (tos.map fun (t : Nat) => V.int (t : Int)) (s.2 % (m : Int)) = some (.int ((tos.getD (s.2 % (m : Int)).toNat 0 : Nat) : Int)) := by
                have hj : (s.2 % (m : Int)).toNat < tos.length := by omega
                have e : s.2 % (m : Int) = (((s.2 % (m : Int)).toNat : Nat) : Int) := by omega
                refine (congrArg (atI _) e).trans (atI_nat ?_)
                rw [List.getElem?_map, List.getElem?_eq_getElem hj, List.getD_eq_getElem?_getD, List.getElem?_eq_getElem hj]
                rfl
              refine ⟨_, rfl, b, _, _, _, rfl, rfl, SqT.of f1, atI2, _, rfl, .inl ⟨_, rfl, _, rfl, b, _, _, _, rfl, rfl, SqT.of f1, atI1, _, _, rfl, rfl, (by show (0 : Int) < (m : Int); omega), bt, _, _, _, rfl, rfl, SqT.of f2, hat2, ?_⟩⟩
              refine nx (tos.getD (s.2 % (m : Int)).toNat 0, s.2) ?_ (K53M.step_rest eG)
              unfold K53M.isRef
              rw [eG]
            · refine ⟨_, rfl, b, _, _, _, rfl, rfl, SqT.of er5, atI0, rfl, _, rfl, itD (fun ha => ?_) fun ha => ?_⟩
              · obtain ⟨k2, to, rfl⟩ : ∃ k1 to, x = .add k1 to := by
                  cases x with
                  | fin w => exact absurd (vstr.mp ha) ne_end_add
                  | add k1 to => exact ⟨k1, to, rfl⟩
                  | take k1 to ot => exact absurd (vstr.mp ha) ne_take_add
                  | rest m1 tos => exact absurd (vstr.mp ha) ne_rest_add
                have e5 : H5 b = some (.tup [.str "add", .int (k2 : Int), .int (to : Int)]) := eb5
                refine ⟨_, rfl, b, _, _, _, rfl, rfl, SqT.of e5, atI2, _, rfl, _, rfl, b, _, _, _, rfl, rfl, SqT.of e5, atI1, _, _, rfl, rfl, _, _, rfl, ?_⟩
                refine nx (to, s.2 + (k2 : Int)) ?_ (K53M.step_add eG)
                unfold K53M.isRef
                rw [eG]
              · obtain ⟨k2, to, ot, rfl⟩ : ∃ k1 to ot, x = .take k1 to ot := by
                  cases x with
                  | fin w =>
                    unfold K53M.isEnd at hE
                    rw [eG] at hE
                    cases hE
                  | add k1 to => exact absurd rfl ha
                  | take k1 to ot => exact ⟨k1, to, ot, rfl⟩
                  | rest m1 tos => exact absurd rfl he
                have e5 : H5 b = some (.tup [.str "take", .int (k2 : Int), .int (to : Int), .int (ot : Int)]) := eb5
                have hst := K53M.step_take eG
                have hrf : K53M.isRef G s = decide (s.2 < (k2 : Int)) := by
                  unfold K53M.isRef
                  rw [eG]
                refine ⟨_, rfl, _, rfl, b, _, _, _, rfl, rfl, SqT.of e5, atI1, _, _, rfl, rfl, _, rfl, itD (fun hge => ?_) fun hge => ?_⟩
                · have hge : (k2 : Int) ≤ s.2 := hge
                  refine ⟨_, rfl, b, _, _, _, rfl, rfl, SqT.of e5, atI2, _, rfl, _, rfl, b, _, _, _, rfl, rfl, SqT.of e5, atI1, _, _, rfl, rfl, _, _, rfl, ?_⟩
                  exact nx (to, s.2 - (k2 : Int)) (by rw [hrf]; exact decide_eq_false (by omega)) (by rw [hst, if_neg (by omega)])
                · have hge : ¬ (k2 : Int) ≤ s.2 := hge
                  rw [if_pos (by omega)] at hst
                  obtain ⟨hring, hlow⟩ := hre (by rw [hrf]; exact decide_eq_true (by omega))
                  rw [hst] at hring hlow hpl5
                  -- place, refused, seen = step[3], refused + 1, {}
                  refine ⟨_, rfl, b, _, _, _, rfl, rfl, SqT.of e5, atI3, _, rfl, _, _, rfl, rfl, fun sd2 hsd2 => ⟨_, _, _, rfl, ?_⟩⟩
                  have S6 := Same.new (o := HO.dT []) hsd2
                  have nld : sd2 ≠ ld := (ne_of_none el5 hsd2).symm
                  have sn2 := Same.none sm5 hsd2
                  refine ⟨_, rfl, _, rfl, (by show 2 ≤ sizeLine; decide), fun k3 hk3 => ?_⟩
                  have S7 := Same.new (o := HO.tup [.int (ot : Int), .int s.2]) hk3
                  refine ⟨_, rfl, ld, _, rfl, DGet.t (k := ky (ot, s.2)) (S7 _ _ (S6 _ _ el5)) upd_same, _, rfl, ?_⟩
                  have S67 := S6.trans S7
                  have tk7 := (tk5.mono (Same.tups S67))
                  have sm7 := sm5.trans S67
                  have el7 := S67 _ _ el5
                  have esd7 : upd (upd H5 sd2 (.dT [])) k3 (.tup [.int (ot : Int), .int s.2]) sd2 = some (.dT []) := new2 hsd2 hk3
                  generalize upd (upd H5 sd2 (.dT [])) k3 (.tup [.int (ot : Int), .int s.2]) = H7 at *
                  cases hv2 : valV (encT tb) (ky (ot, s.2)) with
                  | some v0 =>
                    obtain ⟨g0, ad, hmem, rfl⟩ := encT_some hv2
                    obtain ⟨rz, had, hz1, hz2⟩ := tk7 _ hmem
                    have hz2 : r - rz ≤ (g : Int) - (g0 : Int) := hz2
                    have hz1 : rz ≤ r := hz1
                    obtain ⟨hg0, hnext⟩ := hring g0 (List.mem_map.mpr ⟨_, hmem, rfl⟩)
                    refine iteT ?_
                    -- steps, more
                    refine ⟨_, rfl, _, rfl, _, rfl, _, rfl, (by show 2 ≤ sizeLine; decide), fun k4 hk4 => ?_⟩
                    have S8 := Same.new (o := HO.tup [.int (ot : Int), .int s.2]) hk4
                    have hg8 := DGet.t (k := ky (ot, s.2)) (S8 _ _ el7) (upd_same (a := k4))
                    rw [hv2] at hg8
                    refine ⟨ld, _, rfl, hg8, ad, _, _, _, rfl, rfl, SqT.of (S8 _ _ had), atI0, _, _, rfl, rfl, ?_⟩
                    refine ⟨_, rfl, _, rfl, _, rfl, _, rfl, (by show 2 ≤ sizeLine; decide), fun k5 hk5 => ?_⟩
                    have S9 := Same.new (o := HO.tup [.int (ot : Int), .int s.2]) hk5
                    have S89 := S8.trans S9
                    have hg9 := DGet.t (k := ky (ot, s.2)) (S89 _ _ el7) (upd_same (a := k5))
                    rw [hv2] at hg9
                    refine ⟨ld, _, rfl, hg9, ad, _, _, _, rfl, rfl, SqT.of (S89 _ _ had), atI1, _, _, rfl, rfl, _, _, rfl, ?_⟩
                    have hst1 : (g : Int) + 1 - (g0 : Int) = ((g + 1 - g0 : Nat) : Int) := by omega
                    have hq0 : ((cnt : Int) - ((g : Int) + 1)) / ((g : Int) + 1 - (g0 : Int)) = ((((cnt - (g + 1)) / (g + 1 - g0) : Nat)) : Int) := by
                      rw [hst1, Int.natCast_ediv, Int.natCast_sub (show g + 1 ≤ cnt by omega)]
                      rfl
                    have hqle : (cnt - (g + 1)) / (g + 1 - g0) * (g + 1 - g0) ≤ cnt - (g + 1) := Nat.div_mul_le_self _ _
                    have hqle2 : (cnt - (g + 1)) / (g + 1 - g0) ≤ cnt - (g + 1) := Nat.div_le_self _ _
                    have h200 : (10 : Nat) ^ 30 < 2 ^ 200 := by decide
                    have hsB : ((g : Int) + 1 - (g0 : Int)).natAbs < 2 ^ 200 := by omega
                    have hmB : (r + 1 - rz).natAbs < 2 ^ 200 := by omega
                    have htB : (((cnt : Int) - ((g : Int) + 1)) / ((g : Int) + 1 - (g0 : Int))).natAbs < 2 ^ 200 := by
                      rw [hq0, Int.natAbs_natCast]
                      exact Nat.lt_of_le_of_lt (Nat.le_trans hqle2 (Nat.sub_le _ _)) (Nat.lt_of_le_of_lt hcnt h200)
                    refine ⟨_, rfl, _, rfl, _, _, rfl, rfl, _, rfl, _, _, rfl, rfl, wide_div (b := 200) (by omega) hsB (by decide) (by decide), ?_⟩
                    refine ⟨_, rfl, _, rfl, _, rfl, _, _, rfl, rfl, wide_mul (a := 200) (b := 200) htB hsB (by decide) (by decide) (by decide), _, _, rfl, rfl, _, rfl, _, rfl, _, rfl, _, _, rfl, rfl, wide_mul (a := 200) (b := 200) htB hmB (by decide) (by decide) (by decide), _, _, rfl, rfl, fun ld2 hld2 => ⟨_, _, _, rfl, ?_⟩⟩
                    have S10 := Same.new (o := HO.dT []) hld2
                    have S8910 := S89.trans S10
                    have hgn : ((g + 1 + (cnt - (g + 1)) / (g + 1 - g0) * (g + 1 - g0) : Nat) : Int) = (g : Int) + 1 + ((cnt : Int) - ((g : Int) + 1)) / ((g : Int) + 1 - (g0 : Int)) * ((g : Int) + 1 - (g0 : Int)) := by
                      rw [hq0, Int.natCast_add, Int.natCast_mul, ← hst1]
                      rfl
                    have hq1 : 0 ≤ ((cnt : Int) - ((g : Int) + 1)) / ((g : Int) + 1 - (g0 : Int)) := by
                      rw [hq0]
                      exact Int.natCast_nonneg _
                    have hrq1 := Int.mul_le_mul_of_nonneg_left (show r + 1 - rz ≤ (g : Int) + 1 - (g0 : Int) by omega) hq1
                    have hrq0 := Int.mul_nonneg hq1 (show 0 ≤ r + 1 - rz by omega)
                    refine ⟨9000 - (i + 1), by omega, rfl, k1, (ot, s.2), g + 1 + (cnt - (g + 1)) / (g + 1 - g0) * (g + 1 - g0), [], [], sd2, ld2, r + 1 + ((cnt : Int) - ((g : Int) + 1)) / ((g : Int) + 1 - (g0 : Int)) * (r + 1 - rz), some (.int (i : Int)), some (.ref b), some (.ref kt), some (.int ((g : Int) + 1 - (g0 : Int))), v14, v15, some (.int (((cnt : Int) - ((g : Int) + 1)) / ((g : Int) + 1 - (g0 : Int)))), some (.int (r + 1 - rz)), ⟨by omega, hnext, by omega, hpl5, Nat.zero_le _, Nat.zero_le _, sm7.trans S8910, sn2, Same.none (sm7.trans S89) hld2, (ne_of_none (S89 _ _ esd7) hld2), S8910 _ _ esd7, upd_same, (fun x h => nomatch h), ⟨by omega, by rw [hgn]; omega⟩⟩, ?_⟩
                    rw [hgn]
                    rfl
                  | none =>
                    refine iteF ?_
                    -- low[place, counter] = (gone, refused)
                    refine ⟨_, rfl, _, rfl, (by show 2 ≤ sizeLine; decide), fun vt hvt => ⟨_, rfl, _, rfl, _, rfl, (by show 2 ≤ sizeLine; decide), fun k4 hk4 => ?_⟩⟩
                    have S8 := Same.new (o := HO.tup [.int ((g : Int) + 1), .int (r + 1)]) hvt
                    have S9 := Same.new (o := HO.tup [.int (ot : Int), .int s.2]) hk4
                    have evt := S9 _ _ (show upd H7 vt (.tup [.int ((g : Int) + 1), .int (r + 1)]) vt = _ from upd_same)
                    have S89 := S8.trans S9
                    refine ⟨ld, _, rfl, DPut.t (k := ky (ot, s.2)) (S89 _ _ el7) upd_same (by have := L.tl; unfold encT; rw [List.length_map]; omega), ?_⟩
                    rw [encT_snoc (g := g + 1) hv2]
                    have T9 : Tups H7 (upd (upd (upd H7 vt (.tup [.int ((g : Int) + 1), .int (r + 1)])) k4 (.tup [.int (ot : Int), .int s.2])) ld (.dT (encT (tb ++ [((ot, s.2), g + 1, vt)])))) := (Same.tups S89).trans (Tups.upd (S89 _ _ el7) (fun _ z => by cases z))
                    refine ⟨9000 - (i + 1), by omega, rfl, k1, (ot, s.2), g + 1, [], tb ++ [((ot, s.2), g + 1, vt)], sd2, ld, r + 1, some (.int (i : Int)), some (.ref b), some (.ref kt), v13, v14, v15, v16, v17, ⟨by omega, ?_, hgc, hpl5, Nat.zero_le _, ?_, Same.put (sm7.trans S89) L.ln, sn2, L.ln, nld, ?_, upd_same, ?_, ⟨by omega, by omega⟩⟩, rfl⟩
                    · have h := hlow (encT_none hv2)
                      have e : lowT (tb ++ [((ot, s.2), g + 1, vt)]) = lowT tb ++ [((ot, s.2), g + 1)] := by
                        unfold lowT
                        rw [List.map_append]
                        rfl
                      rw [e]
                      exact h
                    · have := L.tl
                      rw [List.length_append]
                      show tb.length + 1 ≤ i + 1
                      omega
                    · rw [upd_ne nld]
                      exact S89 _ _ esd7
                    · intro y hy
                      rcases List.mem_append.mp hy with q | q
                      · obtain ⟨rz, q1, q2, q3⟩ := tk7 y q
                        exact ⟨rz, T9 _ _ q1, by omega, by omega⟩
                      · rw [List.mem_singleton.mp q]
                        refine ⟨r + 1, ?_, Int.le_refl _, by show r + 1 - (r + 1) ≤ ((g + 1 : Nat) : Int) - ((g + 1 : Nat) : Int); omega⟩
                        rw [upd_ne (ne_of evt (S89 _ _ el7) (fun z => by cases z))]
                        exact evt
end
end K53
end

section
set_option Elab.async false
set_option linter.all false
set_option maxRecDepth 100000
set_option maxHeartbeats 4000000
/-! K53: the law's answer. -/
namespace K53
open PySem PySem.Spec PyProof.Rows L2
open K53M (Stp Pg S)
section
variable {P : Program} {w : World} {K : PySem.W.Frag} {mg : Str → Option Value} {base : Heap} {f : Addr} {fd : FuncData} {cR cY cW : Addr} {tN : Tok}
def spLA : Sp := fun vs H Q _ => ∃ (a : Addr) (G : Pg) (c : Int), vs = [.ref a, .int c] ∧ PgAt H a G ∧ K53M.Ok G (K53M.roundM G) ∧ 0 ≤ c ∧ c ≤ 10 ^ 18 ∧
  ∀ (H' : Hp) (t : Addr) (r : Option (Bool × Nat)), Same H H' → K53M.Ans G (0, c) r → (∀ w N, r = some (w, N) → N ≤ 10 ^ 30) → H' t = some (.tup [.str (wordO r), lenV r]) → Q (.ref t) H'
theorem ok_law_answer (T : Txt K mg cR cY cW tN) (F : FnP K "_law_answer" "_law_answer" s_law_answer f fd) {f1 fd1} (C_law_run : CalOk P w K mg base "_law_run" 3 ["_law_program_here", "_law_number_here", "_law_count"] spRun f1 fd1) :
    FnOk P w K mg base CX0 4 f fd ["_law_program_here", "_law_number_here"] spLA := by
  refine F.ok sc_law_answer (fun vs H Q E h => ?_) (fun cdv A outer s0 H vs Q E hr h => ?_)
  · obtain ⟨a, G, c, rfl, _⟩ := h
    rfl
  · obtain ⟨a, G, c, rfl, hG, o, c0, c1, k⟩ := h
    refine ⟨_, PSs.nox (pss_cons (ps_asg (pe_call C_law_run.G (hr.mono (by decide)) rfl C_law_run.m C_law_run.kp C_law_run.b .nil pass0 (pa_cons (pv 0) (pa_cons (pv 1) (pa_cons (pe_op op_pow pe_int pe_int) pa_nil)))) (pg_tup rfl (pgs_cons (pg_name (i := 2) sc_law_answer.nd rfl (Or.inl rfl)) (pgs_cons (pg_name (i := 3) sc_law_answer.nd rfl (Or.inl rfl)) (pgs_cons (pg_name (i := 4) sc_law_answer.nd rfl (Or.inl rfl)) (pgs_cons (pg_name (i := 5) sc_law_answer.nd rfl (Or.inl rfl)) pgs_nil))))))
      (pss_one (ps_ret (pe_ifExp (pt_cmpR op_eq (pe_ix ix_tup (pe_ix ix_tup (pv 0) (pv 2) (fun _ _ => rfl)) pe_int (fun _ _ => rfl)) pe_str (nomark _)) (pe_tup (pa_cons (pe_ix ix_tup (pe_ix ix_tup (pv 0) (pv 2) (fun _ _ => rfl)) pe_int (fun _ _ => rfl)) (pa_cons (pv 4) pa_nil))) (pe_tup (pa_cons pe_str (pa_cons pe_non pa_nil))))))), ?_⟩
    refine ⟨_, rfl, _, rfl, 10, 30, rfl, rfl, ⟨by decide, by decide, by decide⟩, a, G, c, 10 ^ 30, rfl, hG, o, c0, Nat.le_refl _, fun H1 t s g r S1 ht hP => ⟨t, _, rfl, SqT.of ht, rfl, _, _, rfl, _, _, rfl, _, _, rfl, _, _, rfl, rfl, ?_⟩⟩
    obtain ⟨hA1, hA2⟩ := hP.ans c1
    have hpl := hP.1.1.lt
    obtain ⟨as, h1, h2, h3⟩ := id (hG.mono (Same.tups S1))
    obtain ⟨b, e1, e2⟩ := h3 s.1 G[s.1] (List.getElem?_eq_getElem hpl)
    have eG : G[s.1]? = some G[s.1] := List.getElem?_eq_getElem hpl
    generalize hx : G[s.1] = x at e2 eG
    have hat : atI (as.map V.ref) (s.1 : Int) = some (.ref b) := atI_nat (by rw [List.getElem?_map, e1]; rfl)
    obtain ⟨rr, er⟩ := e2.word (K := K)
    refine ⟨_, rfl, _, rfl, a, _, _, _, rfl, rfl, SqT.of h1, hat, b, _, _, _, rfl, rfl, SqT.of er, atI0, rfl, _, rfl, ?_⟩
    rw [isEnd_dec eG]
    cases hE : K53M.isEnd G s.1 with
    | true =>
      obtain ⟨wd, hwd⟩ := K53M.isEnd_fin hE
      have hA := hA1 wd hwd
      rw [eG] at hwd
      obtain rfl : x = .fin wd := Option.some.inj hwd
      refine ⟨_, rfl, _, rfl, a, _, _, _, rfl, rfl, SqT.of h1, hat, b, _, _, _, rfl, rfl, SqT.of e2, atI1, _, rfl, (by show 2 ≤ sizeLine; decide), fun t2 ht2 => ?_⟩
      exact k _ t2 (some (wd, g)) (S1.trans (Same.new ht2)) hA (fun w' N' z => by cases z; exact hP.1.1.gle) upd_same
    | false => exact ⟨(by show 2 ≤ sizeLine; decide), fun t2 ht2 => k _ t2 none (S1.trans (Same.new ht2)) (hA2 hE) (fun w' N' z => by cases z) upd_same⟩
end
end K53
end

section
set_option Elab.async false
set_option linter.all false
set_option maxRecDepth 100000
set_option maxHeartbeats 4000000
/-! K53: the same steps in another order. -/
namespace K53
open PySem PySem.Spec PyProof.Rows L2
open K53M (Stp Pg S)
section
variable {X : Cx}
/-- a tuple of targets within a comprehension's block -/
theorem pg_tupB {K : PySem.W.Frag} {n : Nat} {es : List Expr} {k : Nat} {t : TGs} {pos : Pos} (hK : X.K = K) (hc : X.calm = true) (h : PGs X es t)
    (hn : (assignEach es X.env).length = n := by rfl) (hst : (assignEach es X.env).findIdx? (·.1) = none := by rfl) : PG X (.Tuple es k pos) (gTup K n t) := by
  subst hK
  exact pg_tup hc h hn hst
end
/-! ### the table of the new places -/
def kvN : Nat → List Nat → List (Key × V)
  | _, [] => []
  | i, t :: r => (.inl (t : Int), V.int (i : Int)) :: kvN (i + 1) r
theorem kvN_none {t : Nat} : ∀ {l : List Nat} {i : Nat}, ¬ t ∈ l → valV (kvN i l) (.inl (t : Int)) = none
  | [], _, _ => rfl
  | x :: r, i, h => by
    have e : ¬ (Sum.inl (x : Int) : Key) = .inl (t : Int) := fun z => h (by rw [Int.ofNat.inj (Sum.inl.inj z)]; exact List.mem_cons_self)
    show valV ((.inl (x : Int), V.int (i : Int)) :: kvN (i + 1) r) _ = none
    rw [valV_neg (p := ((.inl (x : Int) : Key), V.int (i : Int))) e]
    exact kvN_none fun z => h (List.mem_cons_of_mem _ z)
theorem kvN_some {t : Nat} : ∀ {l : List Nat} {i : Nat}, t ∈ l → valV (kvN i l) (.inl (t : Int)) = some (.int ((i + l.idxOf t : Nat) : Int))
  | x :: r, i, h => by
    by_cases e : x = t
    · subst e
      show valV ((.inl (x : Int), V.int (i : Int)) :: kvN (i + 1) r) _ = _
      rw [valV_pos (p := ((.inl (x : Int) : Key), V.int (i : Int))) rfl, List.idxOf_cons_self]
      rfl
    · have e' : ¬ (Sum.inl (x : Int) : Key) = .inl (t : Int) := fun z => e (Int.ofNat.inj (Sum.inl.inj z))
      show valV ((.inl (x : Int), V.int (i : Int)) :: kvN (i + 1) r) _ = _
      rw [valV_neg (p := ((.inl (x : Int) : Key), V.int (i : Int))) e', kvN_some (i := i + 1) ((List.mem_cons.mp h).resolve_left fun z => e z.symm), List.idxOf_cons, beq_false_of_ne e, cond_false]
      rw [show i + 1 + r.idxOf t = i + (r.idxOf t + 1) by omega]
theorem mergeK_kvN : ∀ (l : List Nat) (i : Nat) (acc : List (Key × V)), l.Nodup → (∀ t ∈ l, valV acc (.inl (t : Int)) = none) → mergeK acc (kvN i l) = acc ++ kvN i l
  | [], _, acc, _, _ => (List.append_nil acc).symm
  | t :: r, i, acc, hn, h => by
    have ht := h t List.mem_cons_self
    show mergeK (putK acc (.inl (t : Int)) (V.int (i : Int))) (kvN (i + 1) r) = _
    have hacc : ∀ u ∈ r, valV (acc ++ [((.inl (t : Int) : Key), V.int (i : Int))]) (.inl (u : Int)) = none := fun u hu => by
      have h1 := h u (List.mem_cons_of_mem _ hu)
      have e : ¬ (Sum.inl (t : Int) : Key) = .inl (u : Int) := fun z => (List.nodup_cons.mp hn).1 (by rw [Int.ofNat.inj (Sum.inl.inj z)]; exact hu)
      unfold valV at h1 ⊢
      rw [Option.map_eq_none_iff] at h1 ⊢
      rw [List.find?_append, h1, List.find?_cons, decide_eq_false e]
      rfl
    rw [putK_new _ ht, mergeK_kvN r (i + 1) _ (List.nodup_cons.mp hn).2 hacc, List.append_assoc]
    rfl
theorem paired_kvN {K : PySem.W.Frag} {H : Hp} : ∀ {ps : List Addr} {l : List Nat} {i : Nat}, ps.length = l.length → (∀ (j : Nat) (p : Addr) (t : Nat), ps[j]? = some p → l[j]? = some t → SqT K H p [.int (t : Int), .int ((i + j : Nat) : Int)]) → Paired (fun p kv => SqT K H p [kV kv.1, kv.2]) ps (kvN i l)
  | [], [], _, _, _ => .nil
  | p :: ps, t :: l, i, e, h => .cons (h 0 p t rfl rfl) (paired_kvN (Nat.succ.inj e) fun j q u h1 h2 => by
      have := h (j + 1) q u h1 h2
      rwa [show i + (j + 1) = i + 1 + j by omega] at this)
/-- over enumerate(a list that the block leaves as it is) -/
theorem lc_enum {K : PySem.W.Frag} {a : Addr} {xs : List V} {g : TG} {tt : TT} {te : TE} {vs : List Nat} {σ : L2.St} {H1 : Hp} {D : Addr} {Qd : Hp → Prop} (Pv : Nat → Hp → Prop) (h0 : Pv 0 (upd H1 D (.lst []))) (hl : ∀ i H, i ≤ xs.length → Pv i H → SqL K H a xs)
    (hs : ∀ i x H t, xs[i]? = some x → Pv i H → H t = none → g (.ref t) (wipe σ vs) (upd H t (.tup [.int ((i : Nat) : Int), x])) fun σ2 H2 => wipe σ2 vs = wipe σ vs ∧ tt σ2 H2 fun b H3 =>
      if b = true then te σ2 H3 fun y H4 => ∃ acc, H4 D = some (.lst acc) ∧ acc.length < sizeLine ∧ Pv (i + 1) (upd H4 D (.lst (acc ++ [y]))) else Pv (i + 1) H3) (hd : ∀ H, Pv xs.length H → Qd H) :
    ∃ W : Nat → Nat → Hp → Prop, (∃ m, W 0 m (upd H1 D (.lst []))) ∧ ∀ i m H, W i m H →
      ((Ite K a).stop i H ∧ Qd H) ∨ ((Ite K a).go i H ∧ ∃ Nx : Hp → Prop, (∀ H', Nx H' → ∃ m', m' < m ∧ W (i + 1) m' H') ∧ ∀ x H', (Ite K a).yld i H x H' → g x (wipe σ vs) H' fun σ2 H2 => wipe σ2 vs = wipe σ vs ∧ tt σ2 H2 fun b H3 =>
        if b = true then te σ2 H3 fun y H4 => ∃ acc, H4 D = some (.lst acc) ∧ acc.length < sizeLine ∧ Nx (upd H4 D (.lst (acc ++ [y]))) else Nx H3) := by
  refine ⟨fun i m H => m = xs.length - i ∧ i ≤ xs.length ∧ Pv i H, ⟨xs.length, rfl, Nat.zero_le _, h0⟩, ?_⟩
  rintro i m H ⟨rfl, hi, p⟩
  have q := hl i H hi p
  rcases Nat.lt_or_ge i xs.length with h | h
  · refine .inr ⟨⟨xs, xs[i], q, List.getElem?_eq_getElem h⟩, Pv (i + 1), fun H' p' => ⟨xs.length - (i + 1), by omega, rfl, h, p'⟩, fun v H' y => ?_⟩
    obtain ⟨t, x, rfl, ht, rfl, hy⟩ := y
    exact hs i x H t (hy xs q) p ht
  · have e : i = xs.length := by omega
    subst e
    exact .inl ⟨⟨xs, q, Nat.le_refl _⟩, hd H p⟩
/-! ### the new steps in a list -/
def Blt (H : Hp) (Fo : Addr) (G : Pg) : Prop := ∃ as : List Addr, H Fo = some (.lst (as.map V.ref)) ∧ as.length = G.length ∧ ∀ (j : Nat) (x : Stp), G[j]? = some x → ∃ b, as[j]? = some b ∧ StpAt H b x
theorem Blt.mono {H H' : Hp} {Fo : Addr} {G : Pg} (h : Blt H Fo G) (t : Same H H') : Blt H' Fo G := by
  obtain ⟨as, h1, h2, h3⟩ := h
  refine ⟨as, t _ _ h1, h2, fun j x ex => ?_⟩
  obtain ⟨b, k1, k2⟩ := h3 j x ex
  exact ⟨b, k1, k2.mono (Same.tups t)⟩
theorem Blt.snoc {H : Hp} {Fo b : Addr} {G : Pg} {x : Stp} (h : Blt H Fo G) (hb : StpAt H b x) : ∃ xs, H Fo = some (.lst xs) ∧ xs.length = G.length ∧ Blt (upd H Fo (.lst (xs ++ [.ref b]))) Fo (G ++ [x]) := by
  obtain ⟨as, h1, h2, h3⟩ := h
  have t : Tups H (upd H Fo (.lst (as.map V.ref ++ [.ref b]))) := Tups.upd h1 (fun _ z => by cases z)
  refine ⟨as.map V.ref, h1, by rw [List.length_map, h2], as ++ [b], by rw [upd_same, List.map_append]; rfl, by rw [List.length_append, List.length_append, h2]; rfl, fun j y ey => ?_⟩
  by_cases hj : j < G.length
  · rw [List.getElem?_append_left hj] at ey
    obtain ⟨c, k1, k2⟩ := h3 j y ey
    exact ⟨c, by rw [List.getElem?_append_left (by omega)]; exact k1, k2.mono t⟩
  · rw [List.getElem?_append_right (by omega)] at ey
    have e0 : j - G.length = 0 := by
      cases hz : j - G.length with
      | zero => rfl
      | succ z => rw [hz] at ey; simp at ey
    rw [e0] at ey
    cases ey
    exact ⟨b, by rw [List.getElem?_append_right (by omega), h2, e0]; rfl, hb.mono t⟩
def ren1 (G : Pg) (ord : List Nat) (t : Nat) : Stp := match G[t]? with
  | some x => K53M.renS (fun u => ord.idxOf u) x
  | none => .fin true
theorem ren1_at {G : Pg} {ord : List Nat} {t : Nat} {x : Stp} (h : G[t]? = some x) : ren1 G ord t = K53M.renS (fun u => ord.idxOf u) x := by
  unfold ren1
  rw [h]
/-- ord: all the places, each once -/
structure OrdOk (n : Nat) (ord : List Nat) : Prop where
  len : ord.length = n
  nd : ord.Nodup
  lt : ∀ t ∈ ord, t < n
  all : ∀ t, t < n → t ∈ ord
theorem OrdOk.ren {G : Pg} {ord : List Nat} (h : OrdOk G.length ord) : K53M.Ren G (ord.map (ren1 G ord)) ord := by
  refine ⟨h.len, by rw [List.length_map, h.len], h.nd, h.lt, h.all, fun i t e => ?_⟩
  rw [List.getElem?_map, e]
  have ht := h.lt t (List.mem_of_getElem? e)
  rw [List.getElem?_eq_getElem ht]
  show some (ren1 G ord t) = some _
  rw [ren1_at (List.getElem?_eq_getElem ht)]
section
variable {P : Program} {w : World} {K : PySem.W.Frag} {mg : Str → Option Value} {base : Heap} {f : Addr} {fd : FuncData} {cR cY cW : Addr} {tN : Tok}
def spRen : Sp := fun vs H Q _ => ∃ (a oa : Addr) (G : Pg) (M : Nat) (ord : List Nat), vs = [.ref a, .ref oa] ∧ PgAt H a G ∧ K53M.Ok G M ∧ H oa = some (.lst (ord.map fun (t : Nat) => V.int (t : Int))) ∧ OrdOk G.length ord ∧
  ∀ (H' : Hp) (b : Addr), Same H H' → PgAt H' b (ord.map (ren1 G ord)) → Q (.ref b) H'
theorem ok_law_renumbered (T : Txt K mg cR cY cW tN) (F : FnP K "_law_renumbered" "_law_renumbered" s_law_renumbered f fd) : FnOk P w K mg base CX0 1 f fd ["_law_program_here", "_law_order"] spRen := by
  refine F.ok sc_law_renumbered (fun vs H Q E h => ?_) (fun cdv A outer s0 H vs Q E hr h => ?_)
  · obtain ⟨a, oa, G, M, ord, rfl, _⟩ := h
    rfl
  · obtain ⟨a, oa, G, M, ord, rfl, hG, o, ho, hO, k⟩ := h
    refine ⟨_, PSs.nox (pss_cons (ps_asg (pe_tup (pa_cons (pe_callTy (call_dictP rfl) (by rfl) T.dict_ (by decide +kernel) (pa_cons (pe_lc (own := [("_law_new", 6), ("_law_old", 4)]) (by rfl) sc_law_renumbered.nd (pi_enum (by rfl) T.enumerate_ (pa_cons (pv 1) pa_nil)) (blkOk_by (N := N_law_renumbered) (sc := defScope s_law_renumbered) (by decide +kernel)) (fun _ _ _ _ _ => (pg_tupB (K := K) (n := 2) rfl rfl (pgs_cons (pg_name (i := 6) sc_law_renumbered.nd rfl (Or.inl rfl)) (pgs_cons (pg_name (i := 4) sc_law_renumbered.nd rfl (Or.inl rfl)) pgs_nil)))) (fun _ _ _ _ _ => pts_nil) (fun _ _ _ _ _ => (pe_tup (pa_cons (pv 4) (pa_cons (pv 6) pa_nil))))) pa_nil)) (pa_cons (pe_lst pa_nil) pa_nil))) (pg_tup rfl (pgs_cons (pg_name (i := 2) sc_law_renumbered.nd rfl (Or.inr rfl)) (pgs_cons (pg_name (i := 3) sc_law_renumbered.nd rfl (Or.inl rfl)) pgs_nil))))
      (pss_cons (ps_for PassesOwn.never rfl (pi_list (pv 1)) (pg_name (i := 4) sc_law_renumbered.nd rfl (Or.inl rfl)) (pss_cons (ps_set (i := 5) sc_law_renumbered.nd rfl (Or.inl rfl) (pe_ix ix_tup (pv 0) (pv 4) (fun _ _ => rfl)))
      (pss_cons (ps_if (pt_cmpR op_eq (pe_ix ix_tup (pv 5) pe_int (fun _ _ => rfl)) pe_str (nomark _)) (pss_one (ps_set (i := 5) sc_law_renumbered.nd rfl (Or.inl rfl) (pe_tup (pa_cons pe_str (pa_cons (pe_ix ix_tup (pv 5) pe_int (fun _ _ => rfl)) (pa_cons (pe_callTy call_tuple_of (by rfl) T.tuple_ (by decide +kernel) (pa_cons (pe_lc (own := [("_law_to", 7)]) (by rfl) sc_law_renumbered.nd (pi_tup (pe_ix ix_tup (pv 5) pe_int (fun _ _ => rfl))) (blkOk_by (N := N_law_renumbered) (sc := defScope s_law_renumbered) (by decide +kernel)) (fun _ _ _ _ _ => (pg_name (i := 7) sc_law_renumbered.nd rfl (Or.inl rfl))) (fun _ _ _ _ _ => pts_nil) (fun _ _ _ _ _ => (pe_dget (hu_of hr) (pv 2) (pv 7) (fun _ _ => rfl)))) pa_nil)) pa_nil)))))) (pss_one (ps_if (pt_cmpR op_ne (pe_ix ix_tup (pv 5) pe_int (fun _ _ => rfl)) pe_str (nomark _)) (pss_one (ps_set (i := 5) sc_law_renumbered.nd rfl (Or.inl rfl) (pe_op op_catT (pe_slice sl_tup (pv 5) po_none (po_some pe_int)) (pe_callTy call_tuple_of (by rfl) T.tuple_ (by decide +kernel) (pa_cons (pe_lc (own := [("_law_to", 7)]) (by rfl) sc_law_renumbered.nd (pi_tup (pe_slice sl_tup (pv 5) (po_some pe_int) po_none)) (blkOk_by (N := N_law_renumbered) (sc := defScope s_law_renumbered) (by decide +kernel)) (fun _ _ _ _ _ => (pg_name (i := 7) sc_law_renumbered.nd rfl (Or.inl rfl))) (fun _ _ _ _ _ => pts_nil) (fun _ _ _ _ _ => (pe_dget (hu_of hr) (pv 2) (pv 7) (fun _ _ => rfl)))) pa_nil))))) pss_nil)))
      (pss_one (ps_expr (pe_bm PySem.F.plainAttrs_list PySem.F.slot_list_append PySem.F.type_list_append mt_append (pv 3) (pa_cons (pv 5) pa_nil)))))))
      (pss_one (ps_ret (pe_callTy call_tuple_of (by rfl) T.tuple_ (by decide +kernel) (pa_cons (pv 3) pa_nil)))))), ?_⟩
    have l100 : 100 < sizeLine := by decide
    have hl6 := o.l6
    have hol := hO.len
    refine ⟨_, rfl, oa, _, rfl, SqL.of ho, fun C hC => ?_⟩
    refine lc_enum (K := K) (a := oa) (xs := ord.map fun (t : Nat) => V.int (t : Int)) (fun i H' => Same H H' ∧ ∃ ps : List Addr, H' C = some (.lst (ps.map V.ref)) ∧ ps.length = i ∧ ∀ (j : Nat) (p : Addr) (t : Nat), ps[j]? = some p → ord[j]? = some t → H' p = some (.tup [.int (t : Int), .int (j : Int)]))
      ⟨Same.new hC, [], upd_same, rfl, fun j p t e => by simp at e⟩ (fun i H' _ e => SqL.of (e.1 _ _ ho)) ?_ ?_
    · rintro i x H1 t hx ⟨S1, ps, h1, h2, h3⟩ ht
      have hi : i < ord.length := by
        have := (List.getElem?_eq_some_iff.mp hx).1
        rwa [List.length_map] at this
      have eo : ord[i]? = some ord[i] := List.getElem?_eq_getElem hi
      rw [List.getElem?_map, eo] at hx
      obtain rfl : V.int ((ord[i] : Nat) : Int) = x := Option.some.inj hx
      have S2 := Same.new (o := HO.tup [.int (i : Int), .int ((ord[i] : Nat) : Int)]) ht
      refine ⟨t, _, rfl, SqT.of upd_same, rfl, _, _, rfl, _, _, rfl, rfl, rfl, _, rfl, _, rfl, (by show 2 ≤ sizeLine; decide), fun p hp => ?_⟩
      have S3 := Same.new (o := HO.tup [.int ((ord[i] : Nat) : Int), .int (i : Int)]) hp
      have h1' := S3 _ _ (S2 _ _ h1)
      have nC : ∀ q u, upd (upd H1 t (.tup [.int (i : Int), .int ((ord[i] : Nat) : Int)])) p (.tup [.int ((ord[i] : Nat) : Int), .int (i : Int)]) q = some (.tup u) → q ≠ C := fun q u e => ne_of e h1' (fun z => by cases z)
      refine ⟨_, h1', by rw [List.length_map, h2]; omega, Same.put ((S1.trans S2).trans S3) hC, ps ++ [p], by rw [upd_same, List.map_append]; rfl, by rw [List.length_append, h2]; rfl, fun j q u e1 e2 => ?_⟩
      by_cases hj : j < ps.length
      · rw [List.getElem?_append_left hj] at e1
        have := S3 _ _ (S2 _ _ (h3 j q u e1 e2))
        rw [upd_ne (nC q _ this)]
        exact this
      · rw [List.getElem?_append_right (by omega)] at e1
        have e0 : j - ps.length = 0 := by
          cases hz : j - ps.length with
          | zero => rfl
          | succ z => rw [hz] at e1; simp at e1
        rw [e0] at e1
        cases e1
        have ej : j = i := by omega
        subst ej
        rw [eo] at e2
        cases e2
        have hp' : upd (upd H1 t (.tup [.int (j : Int), .int ((ord[j] : Nat) : Int)])) p (.tup [.int ((ord[j] : Nat) : Int), .int (j : Int)]) p = some (.tup [.int ((ord[j] : Nat) : Int), .int (j : Int)]) := upd_same
        rw [upd_ne (nC p _ hp')]
        exact hp'
    · rintro H1 ⟨S1, ps, h1, h2, h3⟩
      rw [List.length_map] at h2
      refine ⟨C, ps, kvN 0 ord, rfl, SqL.of h1, paired_kvN h2 (fun j p t e1 e2 => by rw [Nat.zero_add]; exact SqT.of (h3 j p t e1 e2)), fun A1 hA1 => ?_⟩
      rw [mergeK_kvN ord 0 [] hO.nd (fun t _ => rfl), List.nil_append]
      refine ⟨(by show 0 ≤ sizeLine; decide), fun Fo hFo => ⟨(by show 2 ≤ sizeLine; decide), fun tt ht => ⟨tt, _, rfl, SqT.of upd_same, rfl, _, _, rfl, _, _, rfl, rfl, ?_⟩⟩⟩
      have S2 : Same H1 (upd H1 A1 (.dK (kvN 0 ord))) := Same.new hA1
      have S3 := Same.new (o := HO.lst []) hFo
      have S4 := Same.new (o := HO.tup [.ref A1, .ref Fo]) ht
      have eA := S4 _ _ (S3 _ _ (show upd H1 A1 (.dK (kvN 0 ord)) A1 = some (.dK (kvN 0 ord)) from upd_same))
      have eF := S4 _ _ (show upd (upd H1 A1 (.dK (kvN 0 ord))) Fo (.lst []) Fo = some (.lst []) from upd_same)
      have S14 := ((S1.trans S2).trans S3).trans S4
      have hFn := Same.none (S1.trans S2) hFo
      have hAn := Same.none S1 hA1
      have nAF : A1 ≠ Fo := ne_of eA eF (fun z => by cases z)
      generalize upd (upd (upd H1 A1 (.dK (kvN 0 ord))) Fo (.lst [])) tt (.tup [.ref A1, .ref Fo]) = H4 at eA eF S14
      have hdg : ∀ (H' : Hp) (t : Nat), H' A1 = some (.dK (kvN 0 ord)) → t < G.length → DGet H' A1 (.int (t : Int)) (some (.int ((ord.idxOf t : Nat) : Int))) := fun H' t e ht => by
        have := DGet.k (k := .inl (t : Int)) e
        rw [kvN_some (hO.all t ht), Nat.zero_add] at this
        exact this
      refine ⟨_, rfl, oa, rfl, ⟨_, SqL.of (S14 _ _ ho)⟩, for_list (K := K) (a := oa) (xs := ord.map fun (t : Nat) => V.int (t : Int)) (fun i σ H' => ∃ (v4 v5 : Option V), σ = [some (.ref a), some (.ref oa), some (.ref A1), some (.ref Fo), v4, v5, none, none] ∧ Same H H' ∧ H' A1 = some (.dK (kvN 0 ord)) ∧ Blt H' Fo ((ord.take i).map (ren1 G ord)))
        ⟨none, none, rfl, S14, eA, [], eF, rfl, fun j x e => by simp at e⟩ (fun i σ H' _ e => by obtain ⟨_, _, _, e, _⟩ := e; exact SqL.of (e _ _ ho)) ?_ ?_⟩
      · rintro i x σ H5 hi ⟨v4, v5, rfl, S5, eA5, hB⟩
        have hlt : i < ord.length := by
          have := (List.getElem?_eq_some_iff.mp hi).1
          rwa [List.length_map] at this
        have eo : ord[i]? = some ord[i] := List.getElem?_eq_getElem hlt
        have htG := hO.lt _ (List.getElem_mem hlt)
        generalize ord[i] = t at eo htG
        rw [List.getElem?_map, eo] at hi
        obtain rfl : V.int ((t : Nat) : Int) = x := Option.some.inj hi
        obtain ⟨as, q1, q2, q3⟩ := id (hG.mono (Same.tups S5))
        obtain ⟨b, e1, e2⟩ := q3 t G[t] (List.getElem?_eq_getElem htG)
        have eG : G[t]? = some G[t] := List.getElem?_eq_getElem htG
        generalize hx : G[t] = x at e2 eG
        have ok := o.st _ _ eG
        obtain ⟨rr, er⟩ := e2.word (K := K)
        have htake : (ord.take (i + 1)).map (ren1 G ord) = (ord.take i).map (ren1 G ord) ++ [K53M.renS (fun u => ord.idxOf u) x] := by
          rw [List.take_add_one, eo, List.map_append, ← ren1_at eG]
          rfl
        have fin : ∀ (H6 : Hp) (c : Addr), Same H5 H6 → StpAt H6 c (K53M.renS (fun u => ord.idxOf u) x) → tyV K "list" (.ref Fo) H6 ∧ ∃ l xs y, V.ref Fo = .ref l ∧ [V.ref c] = [y] ∧ H6 l = some (.lst xs) ∧ xs.length < sizeLine ∧
            ∃ (v4 v5 : Option V), [some (V.ref a), some (.ref oa), some (.ref A1), some (.ref Fo), some (.int (t : Int)), some (.ref c), none, none] = [some (.ref a), some (.ref oa), some (.ref A1), some (.ref Fo), v4, v5, none, none] ∧ Same H (upd H6 l (.lst (xs ++ [y]))) ∧ upd H6 l (.lst (xs ++ [y])) A1 = some (.dK (kvN 0 ord)) ∧ Blt (upd H6 l (.lst (xs ++ [y]))) Fo ((ord.take (i + 1)).map (ren1 G ord)) := by
          intro H6 c S6 hc
          obtain ⟨xs, k1, k2, k3⟩ := (hB.mono S6).snoc hc
          refine ⟨.inl ⟨rfl, _, SqL.of k1⟩, Fo, xs, _, rfl, rfl, k1, ?_, _, _, rfl, Same.put (S5.trans S6) hFn, ?_, ?_⟩
          · rw [k2, List.length_map, List.length_take]
            omega
          · rw [upd_ne nAF]
            exact S6 _ _ eA5
          · rw [htake]
            exact k3
        refine ⟨_, rfl, _, rfl, a, _, _, _, rfl, rfl, SqT.of q1, atI_nat (by rw [List.getElem?_map, e1]; rfl), ?_⟩
        refine ⟨_, rfl, b, _, _, _, rfl, rfl, SqT.of er, atI0, rfl, _, rfl, itD (fun he => ?_) fun he => ?_⟩
        · obtain ⟨m, tos, rfl⟩ : ∃ m tos, x = .rest m tos := by
            cases x with
            | fin w => exact absurd (vstr.mp he) ne_end_rest
            | add k1 to => exact absurd (vstr.mp he) ne_add_rest
            | take k1 to ot => exact absurd (vstr.mp he) ne_take_rest
            | rest m1 tos => exact ⟨m1, tos, rfl⟩
          obtain ⟨bt, f1, f2⟩ := e2
          obtain ⟨g1, g2, g3, g4, g5⟩ := ok
          refine ⟨_, rfl, b, _, _, _, rfl, rfl, SqT.of f1, atI1, _, rfl, b, _, _, _, rfl, rfl, SqT.of f1, atI2, bt, rfl, ⟨_, SqT.of f2⟩, fun C2 hC2 => ?_⟩
          refine lc_tup (K := K) (a := bt) (xs := tos.map fun (t : Nat) => V.int (t : Int)) (fun i H' => Same H5 H' ∧ H' C2 = some (.lst ((tos.take i).map fun (t : Nat) => V.int ((ord.idxOf t : Nat) : Int)))) ⟨Same.new hC2, upd_same⟩ (fun i H' _ e => SqT.of (e.1 _ _ f2)) ?_ ?_
          · rintro i2 x H6 hx ⟨S6, h6⟩
            have hlt2 : i2 < tos.length := by
              have := (List.getElem?_eq_some_iff.mp hx).1
              rwa [List.length_map] at this
            have eo2 : tos[i2]? = some tos[i2] := List.getElem?_eq_getElem hlt2
            have hu := g4 _ (List.getElem_mem hlt2)
            generalize tos[i2] = u at eo2 hu
            rw [List.getElem?_map, eo2] at hx
            obtain rfl : V.int ((u : Nat) : Int) = x := Option.some.inj hx
            refine ⟨rfl, _, rfl, _, rfl, A1, _, rfl, hdg _ _ (S6 _ _ eA5) hu, _, h6, ?_, Same.put S6 hC2, ?_⟩
            · rw [List.length_map, List.length_take]
              omega
            · rw [upd_same, List.take_add_one, eo2, List.map_append]
              rfl
          · rintro H6 ⟨S6, h6⟩
            rw [List.length_map, List.take_of_length_le (Nat.le_refl _)] at h6
            refine ⟨C2, _, rfl, .inl ⟨SqL.of h6, fun B hB2 => ⟨(by show 3 ≤ sizeLine; decide), fun r hr => ?_⟩⟩⟩
            have S7 := Same.new (o := HO.tup (tos.map fun (t : Nat) => V.int ((ord.idxOf t : Nat) : Int))) hB2
            have S8 := Same.new (o := HO.tup [.str "rest", .int (m : Int), .ref B]) hr
            have hst : StpAt (upd (upd H6 B (.tup (tos.map fun (t : Nat) => V.int ((ord.idxOf t : Nat) : Int)))) r (.tup [.str "rest", .int (m : Int), .ref B])) r (K53M.renS (fun u => ord.idxOf u) (.rest m tos)) := by
              refine ⟨B, upd_same, ?_⟩
              rw [List.map_map]
              exact new2 hB2 hr
            obtain ⟨z1, z2⟩ := fin _ r ((S6.trans S7).trans S8) hst
            exact ⟨_, rfl, z1, _, rfl, z2⟩
        · refine ⟨_, rfl, b, _, _, _, rfl, rfl, SqT.of er, atI0, rfl, _, rfl, itN (fun hne => ?_) fun hne => ?_⟩
          · cases x with
            | fin w => exact absurd rfl hne
            | rest m1 tos => exact absurd rfl he
            | add k1 to =>
              have e5 : H5 b = some (.tup [.str "add", .int (k1 : Int), .int (to : Int)]) := e2
              -- step[:2] + tuple([anew[to] for to in step[2:]])
              refine ⟨_, rfl, 2, rfl, b, _, rfl, SqT.of e5, (fun z => absurd (show (2 : Nat) = 3 from z.2) (by decide)), fun p1 hp1 => ?_⟩
              have S6 := Same.new (o := HO.tup [.str "add", .int (k1 : Int)]) hp1
              refine ⟨_, rfl, 2, rfl, b, _, rfl, SqT.of (S6 _ _ e5), (fun z => absurd (show (2 : Nat) = 0 from z.1) (by decide)), fun p2 hp2 => ⟨p2, rfl, ⟨_, SqT.of upd_same⟩, fun C2 hC2 => ?_⟩⟩
              have S7 := Same.new (o := HO.tup ([to].map fun (t : Nat) => V.int (t : Int))) hp2
              have S67 := S6.trans S7
              have f2 : upd (upd H5 p1 (.tup [.str "add", .int (k1 : Int)])) p2 (.tup ([to].map fun (t : Nat) => V.int (t : Int))) p2 = some (.tup ([to].map fun (t : Nat) => V.int (t : Int))) := upd_same
              have f1 := S7 _ _ (show upd H5 p1 (.tup [.str "add", .int (k1 : Int)]) p1 = some (.tup [.str "add", .int (k1 : Int)]) from upd_same)
              have g4 : ∀ t ∈ [to], t < G.length := (fun t ht => by rw [List.mem_singleton.mp ht]; exact ok.2.2)
              refine lc_tup (K := K) (a := p2) (xs := [to].map fun (t : Nat) => V.int (t : Int)) (fun i H' => Same (upd (upd H5 p1 (.tup [.str "add", .int (k1 : Int)])) p2 (.tup ([to].map fun (t : Nat) => V.int (t : Int)))) H' ∧ H' C2 = some (.lst (([to].take i).map fun (t : Nat) => V.int ((ord.idxOf t : Nat) : Int)))) ⟨Same.new hC2, upd_same⟩ (fun i H' _ e => SqT.of (e.1 _ _ f2)) ?_ ?_
              · rintro i2 x H6 hx ⟨S8, h6⟩
                have hlt2 : i2 < [to].length := by
                  have := (List.getElem?_eq_some_iff.mp hx).1
                  rwa [List.length_map] at this
                have eo2 : [to][i2]? = some [to][i2] := List.getElem?_eq_getElem hlt2
                have hu := g4 _ (List.getElem_mem hlt2)
                generalize [to][i2] = u at eo2 hu
                rw [List.getElem?_map, eo2] at hx
                obtain rfl : V.int ((u : Nat) : Int) = x := Option.some.inj hx
                refine ⟨rfl, _, rfl, _, rfl, A1, _, rfl, hdg _ _ (S8 _ _ (S67 _ _ eA5)) hu, _, h6, ?_, Same.put S8 hC2, ?_⟩
                · rw [List.length_map, List.length_take]
                  have : [to].length ≤ 2 := by simp
                  omega
                · rw [upd_same, List.take_add_one, eo2, List.map_append]
                  rfl
              · rintro H6 ⟨S8, h6⟩
                rw [List.length_map, List.take_of_length_le (Nat.le_refl _)] at h6
                refine ⟨C2, _, rfl, .inl ⟨SqL.of h6, fun p3 hp3 => ?_⟩⟩
                have S9 := Same.new (o := HO.tup ([to].map fun (t : Nat) => V.int ((ord.idxOf t : Nat) : Int))) hp3
                refine ⟨p1, p3, _, _, rfl, rfl, SqT.of (S9 _ _ (S8 _ _ f1)), SqT.of upd_same, (by simp), (by show 3 ≤ sizeLine; decide), (fun z => by simp at z), fun _ p4 hp4 => ?_⟩
                have S10 := Same.new (o := HO.tup ([.str "add", .int (k1 : Int)] ++ ([to].map fun (t : Nat) => V.int ((ord.idxOf t : Nat) : Int)))) hp4
                have hst : StpAt (upd (upd H6 p3 (.tup ([to].map fun (t : Nat) => V.int ((ord.idxOf t : Nat) : Int)))) p4 (.tup ([.str "add", .int (k1 : Int)] ++ ([to].map fun (t : Nat) => V.int ((ord.idxOf t : Nat) : Int))))) p4 (K53M.renS (fun u => ord.idxOf u) (.add k1 to)) := upd_same
                obtain ⟨z1, z2⟩ := fin _ p4 (((S67.trans S8).trans S9).trans S10) hst
                exact ⟨_, rfl, z1, _, rfl, z2⟩
            | take k1 to ot =>
              have e5 : H5 b = some (.tup [.str "take", .int (k1 : Int), .int (to : Int), .int (ot : Int)]) := e2
              -- step[:2] + tuple([anew[to] for to in step[2:]])
              refine ⟨_, rfl, 2, rfl, b, _, rfl, SqT.of e5, (fun z => absurd (show (2 : Nat) = 4 from z.2) (by decide)), fun p1 hp1 => ?_⟩
              have S6 := Same.new (o := HO.tup [.str "take", .int (k1 : Int)]) hp1
              refine ⟨_, rfl, 2, rfl, b, _, rfl, SqT.of (S6 _ _ e5), (fun z => absurd (show (2 : Nat) = 0 from z.1) (by decide)), fun p2 hp2 => ⟨p2, rfl, ⟨_, SqT.of upd_same⟩, fun C2 hC2 => ?_⟩⟩
              have S7 := Same.new (o := HO.tup ([to, ot].map fun (t : Nat) => V.int (t : Int))) hp2
              have S67 := S6.trans S7
              have f2 : upd (upd H5 p1 (.tup [.str "take", .int (k1 : Int)])) p2 (.tup ([to, ot].map fun (t : Nat) => V.int (t : Int))) p2 = some (.tup ([to, ot].map fun (t : Nat) => V.int (t : Int))) := upd_same
              have f1 := S7 _ _ (show upd H5 p1 (.tup [.str "take", .int (k1 : Int)]) p1 = some (.tup [.str "take", .int (k1 : Int)]) from upd_same)
              have g4 : ∀ t ∈ [to, ot], t < G.length := (fun t ht => (List.mem_cons.mp ht).elim (fun z => (by rw [z]; exact ok.2.2.1)) fun z => (by rw [List.mem_singleton.mp z]; exact ok.2.2.2))
              refine lc_tup (K := K) (a := p2) (xs := [to, ot].map fun (t : Nat) => V.int (t : Int)) (fun i H' => Same (upd (upd H5 p1 (.tup [.str "take", .int (k1 : Int)])) p2 (.tup ([to, ot].map fun (t : Nat) => V.int (t : Int)))) H' ∧ H' C2 = some (.lst (([to, ot].take i).map fun (t : Nat) => V.int ((ord.idxOf t : Nat) : Int)))) ⟨Same.new hC2, upd_same⟩ (fun i H' _ e => SqT.of (e.1 _ _ f2)) ?_ ?_
              · rintro i2 x H6 hx ⟨S8, h6⟩
                have hlt2 : i2 < [to, ot].length := by
                  have := (List.getElem?_eq_some_iff.mp hx).1
                  rwa [List.length_map] at this
                have eo2 : [to, ot][i2]? = some [to, ot][i2] := List.getElem?_eq_getElem hlt2
                have hu := g4 _ (List.getElem_mem hlt2)
                generalize [to, ot][i2] = u at eo2 hu
                rw [List.getElem?_map, eo2] at hx
                obtain rfl : V.int ((u : Nat) : Int) = x := Option.some.inj hx
                refine ⟨rfl, _, rfl, _, rfl, A1, _, rfl, hdg _ _ (S8 _ _ (S67 _ _ eA5)) hu, _, h6, ?_, Same.put S8 hC2, ?_⟩
                · rw [List.length_map, List.length_take]
                  have : [to, ot].length ≤ 2 := by simp
                  omega
                · rw [upd_same, List.take_add_one, eo2, List.map_append]
                  rfl
              · rintro H6 ⟨S8, h6⟩
                rw [List.length_map, List.take_of_length_le (Nat.le_refl _)] at h6
                refine ⟨C2, _, rfl, .inl ⟨SqL.of h6, fun p3 hp3 => ?_⟩⟩
                have S9 := Same.new (o := HO.tup ([to, ot].map fun (t : Nat) => V.int ((ord.idxOf t : Nat) : Int))) hp3
                refine ⟨p1, p3, _, _, rfl, rfl, SqT.of (S9 _ _ (S8 _ _ f1)), SqT.of upd_same, (by simp), (by show 4 ≤ sizeLine; decide), (fun z => by simp at z), fun _ p4 hp4 => ?_⟩
                have S10 := Same.new (o := HO.tup ([.str "take", .int (k1 : Int)] ++ ([to, ot].map fun (t : Nat) => V.int ((ord.idxOf t : Nat) : Int)))) hp4
                have hst : StpAt (upd (upd H6 p3 (.tup ([to, ot].map fun (t : Nat) => V.int ((ord.idxOf t : Nat) : Int)))) p4 (.tup ([.str "take", .int (k1 : Int)] ++ ([to, ot].map fun (t : Nat) => V.int ((ord.idxOf t : Nat) : Int))))) p4 (K53M.renS (fun u => ord.idxOf u) (.take k1 to ot)) := upd_same
                obtain ⟨z1, z2⟩ := fin _ p4 (((S67.trans S8).trans S9).trans S10) hst
                exact ⟨_, rfl, z1, _, rfl, z2⟩
          · cases x with
            | fin w =>
              obtain ⟨z1, z2⟩ := fin _ b (fun _ _ z => z) e2
              exact ⟨_, rfl, z1, _, rfl, z2⟩
            | rest m1 tos => exact absurd rfl he
            | add k1 to => exact absurd (vstr.mp hne) ne_add_end
            | take k1 to ot => exact absurd (vstr.mp hne) ne_take_end
      · rintro σ H5 ⟨v4, v5, rfl, S5, eA5, as, k1, k2, k3⟩
        have eL : (ord.map fun (t : Nat) => V.int (t : Int)).length = ord.length := List.length_map ..
        rw [eL, List.take_length] at k2 k3
        refine ⟨_, rfl, Fo, _, rfl, .inl ⟨SqL.of k1, fun b hb => ?_⟩⟩
        have S6 := Same.new (o := HO.tup (as.map V.ref)) hb
        refine k _ b (S5.trans S6) ⟨as, upd_same, k2, fun j x e => ?_⟩
        obtain ⟨c, z1, z2⟩ := k3 j x e
        exact ⟨c, z1, z2.mono (Same.tups S6)⟩
end
end K53
end

section
set_option Elab.async false
set_option linter.all false
set_option maxRecDepth 100000
set_option maxHeartbeats 4000000
/-! K53: the program goes on as it would have. -/
namespace K53
open PySem PySem.Spec PyProof.Rows L2
open K53M (Stp Pg S)
/-! ### sizes of texts -/
structure Sm (k n : Nat) (d : PyData) : Prop where
  sh : d.showable = true
  nd : d.hasDict = false
  dp : d.depth ≤ k
  ls : d.leavesShort 200 = true
  wt : d.weight ≤ n
theorem smInt {i : Int} (h : i.natAbs < 2 ^ 150) : Sm 0 151 (.int i) := by
  have hl : i.natAbs.log2 < 150 := PySem.Flt.log2_lt_of (by decide) h
  refine ⟨decide_eq_true (by omega), rfl, Nat.le_refl _, ?_, ?_⟩
  · have e := int_text_length_le (k := 150) (by decide) hl
    have e2 : (PyData.shown (.int i)).length = (toString i : String).length := PySem.ofString_length _
    exact decide_eq_true (by rw [e2]; omega)
  · show (if i == 0 then 0 else i.natAbs.log2 + 1) ≤ 151
    split <;> omega
theorem smNone : Sm 0 151 .none := ⟨rfl, rfl, Nat.le_refl _, rfl, Nat.zero_le _⟩
theorem smWord (r : Option (Bool × Nat)) : Sm 0 151 (.str (wordO r)) := by
  have h : (wordO r).cps.toList.all (fun c => decide (c < 16 ^ 8)) = true ∧ (wordO r).cps.size ≤ 151 := by
    cases r with
    | none => exact ⟨by decide +kernel, by decide +kernel⟩
    | some q =>
      obtain ⟨w, N⟩ := q
      cases w with
      | true => exact ⟨by show ("yes" : Str).cps.toList.all (fun c => decide (c < 16 ^ 8)) = true; decide +kernel, by show ("yes" : Str).cps.size ≤ 151; decide +kernel⟩
      | false => exact ⟨by show ("no" : Str).cps.toList.all (fun c => decide (c < 16 ^ 8)) = true; decide +kernel, by show ("no" : Str).cps.size ≤ 151; decide +kernel⟩
  exact ⟨rfl, rfl, Nat.le_refl _, h.1, h.2⟩
theorem Sm.tup2 {k n m : Nat} {a b : PyData} (x : Sm k n a) (y : Sm k m b) : Sm (k + 1) (n + m + 2) (.tuple [a, b]) := by
  have h1 := x.dp
  have h2 := y.dp
  have h3 := x.wt
  have h4 := y.wt
  refine ⟨?_, ?_, ?_, ?_, ?_⟩
  · simp only [PyData.showable, PyData.showableAll, x.sh, y.sh, Bool.and_true]
  · simp only [PyData.hasDict, PyData.hasDictAll, x.nd, y.nd, Bool.or_false]
  · simp only [PyData.depth, PyData.depthAll]
    omega
  · simp only [PyData.leavesShort, PyData.leavesShortAll, x.ls, y.ls, Bool.and_true]
  · simp only [PyData.weight, PyData.weightAll]
    omega
theorem Sm.list3 {k n m l : Nat} {a b c : PyData} (x : Sm k n a) (y : Sm k m b) (z : Sm k l c) : Sm (k + 1) (n + m + l + 3) (.list [a, b, c]) := by
  have h1 := x.dp
  have h2 := y.dp
  have h3 := x.wt
  have h4 := y.wt
  have h5 := z.dp
  have h6 := z.wt
  refine ⟨?_, ?_, ?_, ?_, ?_⟩
  · simp only [PyData.showable, PyData.showableAll, x.sh, y.sh, z.sh, Bool.and_true]
  · simp only [PyData.hasDict, PyData.hasDictAll, x.nd, y.nd, z.nd, Bool.or_false]
  · simp only [PyData.depth, PyData.depthAll]
    omega
  · simp only [PyData.leavesShort, PyData.leavesShortAll, x.ls, y.ls, z.ls, Bool.and_true]
  · simp only [PyData.weight, PyData.weightAll]
    omega
theorem Sm.more {k n : Nat} {d : PyData} (x : Sm k n d) : Sm (k + 1) n d := ⟨x.sh, x.nd, Nat.le_succ_of_le x.dp, x.ls, x.wt⟩
theorem Sm.fits {k n : Nat} {d : PyData} (x : Sm k n d) (hn : n ≤ 2000) : d.shown.length ≤ sizeLine := by
  have h := PyData.shown_le 200 (by decide) d x.ls
  have h2 : 202 * d.weight ≤ 202 * 2000 := Nat.mul_le_mul_left _ (Nat.le_trans x.wt hn)
  have h3 : 202 * 2000 + 200 ≤ sizeLine := by decide
  omega
def lenD : Option (Bool × Nat) → PyData
  | none => .none
  | some (_, N) => .int (N : Int)
theorem dpLen {K : PySem.W.Frag} {H : Hp} (r : Option (Bool × Nat)) : Dp K H (lenV r) (lenD r) := by
  cases r with
  | none => exact .non
  | some q =>
    obtain ⟨w, N⟩ := q
    exact .int _
theorem smLen {r : Option (Bool × Nat)} (h : ∀ w N, r = some (w, N) → N ≤ 10 ^ 30) : Sm 0 151 (lenD r) := by
  cases r with
  | none => exact smNone
  | some q =>
    obtain ⟨w, N⟩ := q
    have h1 := h w N rfl
    refine smInt (i := (N : Int)) ?_
    rw [Int.natAbs_natCast]
    exact Nat.lt_of_le_of_lt h1 (by decide)
/-! ### the counter stays small -/
theorem run_le {G : Pg} {M : Nat} (o : K53M.Ok G M) : ∀ (n : Nat) {s : S}, s.1 < G.length → (K53M.runN G n s).2 ≤ s.2 + 4 * (n : Int)
  | 0, s, _ => by show s.2 ≤ _; omega
  | n + 1, s, h => by
    have h1 := run_le o n (o.step_lt h)
    have h2 := o.step_le h
    show (K53M.runN G n (K53M.step G s)).2 ≤ _
    omega
/-! ### the order -/
def ofV : V → Nat
  | .int z => z.toNat
  | _ => 0
theorem ofV_map (l : List Nat) : (l.map fun (t : Nat) => V.int (t : Int)).map ofV = l := by
  rw [List.map_map]
  exact List.map_id l
theorem unV {ys : List V} {l : List Nat} (h : ys.Perm (l.map fun (t : Nat) => V.int (t : Int))) : ∃ l' : List Nat, l'.Perm l ∧ ys = l'.map fun (t : Nat) => V.int (t : Int) := by
  have hm : ∀ zs : List V, (∀ y ∈ zs, y ∈ l.map fun (t : Nat) => V.int (t : Int)) → ∃ l' : List Nat, zs = l'.map fun (t : Nat) => V.int (t : Int) := by
    intro zs
    induction zs with
    | nil => exact fun _ => ⟨[], rfl⟩
    | cons y zs ih =>
      intro hy
      obtain ⟨l', e⟩ := ih fun z hz => hy z (List.mem_cons_of_mem _ hz)
      obtain ⟨x, _, ex⟩ := List.mem_map.mp (hy y List.mem_cons_self)
      exact ⟨x :: l', by rw [e, List.map_cons, ex]⟩
  obtain ⟨l', rfl⟩ := hm ys fun y hy => h.mem_iff.mp hy
  have h2 := h.map ofV
  rw [ofV_map, ofV_map] at h2
  exact ⟨l', h2, rfl⟩
theorem ordOk {n p : Nat} (hn : n ≤ 6) (hp : p < n) {l : List Nat} (h : l.Perm ((List.range n).filter fun x => decide (x ≠ p))) : OrdOk n (p :: l) := by
  have hlen : ∀ n, n < 7 → ∀ p, p < 7 → p < n → ((List.range n).filter fun x => decide (x ≠ p)).length + 1 = n := by decide
  refine ⟨?_, ?_, fun t ht => ?_, fun t ht => ?_⟩
  · have := hlen n (by omega) p (by omega) hp
    rw [List.length_cons, h.length_eq]
    exact this
  · refine List.nodup_cons.mpr ⟨fun z => ?_, h.nodup_iff.mpr (List.nodup_range.filter _)⟩
    have := (List.mem_filter.mp (h.mem_iff.mp z)).2
    simp at this
  · rcases List.mem_cons.mp ht with z | z
    · rw [z]
      exact hp
    · exact List.mem_range.mp (List.mem_filter.mp (h.mem_iff.mp z)).1
  · by_cases e : t = p
    · rw [e]
      exact List.mem_cons_self
    · exact List.mem_cons_of_mem _ (h.mem_iff.mpr (List.mem_filter.mpr ⟨List.mem_range.mpr ht, decide_eq_true e⟩))
end K53
end

section
set_option Elab.async false
set_option linter.all false
set_option maxRecDepth 100000
set_option maxHeartbeats 4000000
/-! K53: the program goes on as it would have. -/
namespace K53
open PySem PySem.Spec PyProof.Rows L2
open K53M (Stp Pg S)
theorem nodup_at {l : List Nat} (h : l.Nodup) {i j x : Nat} (e1 : l[i]? = some x) (e2 : l[j]? = some x) : i = j := by
  obtain ⟨h1, h2⟩ := List.getElem?_eq_some_iff.mp e1
  obtain ⟨h3, h4⟩ := List.getElem?_eq_some_iff.mp e2
  rcases Nat.lt_trichotomy i j with q | q | q
  · exact absurd (h2.trans h4.symm) (List.pairwise_iff_getElem.mp h i j h1 h3 q)
  · exact q
  · exact absurd (h4.trans h2.symm) (List.pairwise_iff_getElem.mp h j i h3 h1 q)
section
variable {P : Program} {w : World} {K : PySem.W.Frag} {mg : Str → Option Value} {base : Heap} {f : Addr} {fd : FuncData} {cR cY cW : Addr} {tN : Tok}
def spGoes : Sp := fun vs H Q _ => ∃ (d l0 l1 a : Addr) (G : Pg) (c : Int) (cnt : Nat) (r : Option (Bool × Nat)), vs = [.ref d, .ref a, .int c, .int (cnt : Int), .str (wordO r), lenV r] ∧ DeckAt H d l0 l1 ∧ PgAt H a G ∧ K53M.Ok G (K53M.roundM G) ∧ 0 ≤ c ∧ c ≤ 10 ^ 18 ∧ cnt ≤ 10 ^ 18 ∧
  K53M.Ans G (0, c) r ∧ (∀ w N, r = some (w, N) → N ≤ 10 ^ 30) ∧ ∀ H', Drw d l0 l1 H H' → Q (.bl true) H'
theorem ok_law_goes_on (T : Txt K mg cR cY cW tN) (F : FnP K "_law_goes_on" "_law_goes_on" s_law_goes_on f fd) {f1 fd1 f2 fd2 f3 fd3 f4 fd4 f5 fd5 f6 fd6 f7 fd7} (C_law_run : CalOk P w K mg base "_law_run" 3 ["_law_program_here", "_law_number_here", "_law_count"] spRun f1 fd1)
    (C_stands : CalOk P w K mg base "stands" 7 ["program", "number", "count"] spStands f2 fd2) (C_law_mixed : CalOk P w K mg base "_law_mixed" 2 ["_law_deck_here", "_law_items"] spMix f3 fd3) (C_law_renumbered : CalOk P w K mg base "_law_renumbered" 1 ["_law_program_here", "_law_order"] spRen f4 fd4)
    (C_law_number : CalOk P w K mg base "_law_number" 3 ["_law_deck_here", "_law_most"] spNum f5 fd5) (C_answer : CalOk P w K mg base "answer" 6 ["program", "number"] spAnswer f6 fd6) (C_length : CalOk P w K mg base "length" 6 ["program", "number"] spLength f7 fd7) :
    GOk P w K mg base 8 f fd ["_law_deck_here", "_law_program_here", "_law_number_here", "_law_count", "_law_word", "_law_steps"] spGoes := by
  refine gok_of F sc_law_goes_on (fun vs H Q E h => ?_) (fun cdv A outer s0 H vs Q E hgd hr h => ?_)
  · obtain ⟨d, l0, l1, a, G, c, cnt, r, rfl, _⟩ := h
    rfl
  · obtain ⟨d, l0, l1, a, G, c, cnt, r, rfl, hD, hG, o, c0, c1, hcnt, hA, hN, k⟩ := h
    refine ⟨_, PSs.nox (pss_cons (ps_asg (pe_call C_law_run.G (hr.mono (by decide)) rfl C_law_run.m C_law_run.kp C_law_run.b .nil pass0 (pa_cons (pv 1) (pa_cons (pv 2) (pa_cons (pv 3) pa_nil)))) (pg_tup rfl (pgs_cons (pg_name (i := 6) sc_law_goes_on.nd rfl (Or.inr rfl)) (pgs_cons (pg_name (i := 7) sc_law_goes_on.nd rfl (Or.inl rfl)) (pgs_cons (pg_name (i := 8) sc_law_goes_on.nd rfl (Or.inl rfl)) (pgs_cons (pg_name (i := 9) sc_law_goes_on.nd rfl (Or.inl rfl)) pgs_nil))))))
      (pss_cons (ps_if (pt_cmpR op_ne (pe_callB (call_reprD hgd hr.units) (by rfl) T.repr_ (by decide +kernel) (pa_cons (pe_call C_stands.G (hr.mono (by decide)) rfl C_stands.m C_stands.kp C_stands.b .nil pass0 (pa_cons (pv 1) (pa_cons (pv 2) (pa_cons (pv 3) pa_nil)))) pa_nil)) (pe_callB (call_reprD hgd hr.units) (by rfl) T.repr_ (by decide +kernel) (pa_cons (pe_tup (pa_cons (pv 6) (pa_cons (pv 7) pa_nil))) pa_nil)) (nomark _)) (pss_one (ps_ret pe_bl)) pss_nil)
      (pss_cons (ps_if (pt_cmpR op_gt (pv 7) (pe_op op_pow pe_int pe_int) (nomark _)) (pss_one (ps_ret pe_bl)) pss_nil)
      (pss_cons (ps_set (i := 10) sc_law_goes_on.nd rfl (Or.inl rfl) (pe_op op_cat (pe_lst (pa_cons (pv 6) pa_nil)) (pe_call C_law_mixed.G (hr.mono (by decide)) rfl C_law_mixed.m C_law_mixed.kp C_law_mixed.b .nil pass0 (pa_cons (pv 0) (pa_cons (pe_lc (own := [("_law_own", 18)]) (by rfl) sc_law_goes_on.nd (pi_range1 rfl T.range_ (pa_cons (pe_callB call_len_seq (by rfl) T.len_ (by decide +kernel) (pa_cons (pv 1) pa_nil)) pa_nil)) (blkOk_by (N := N_law_goes_on) (sc := defScope s_law_goes_on) (by decide +kernel)) (fun _ _ _ _ _ => (pg_name (i := 18) sc_law_goes_on.nd rfl (Or.inl rfl))) (fun _ _ _ _ _ => (pts_one (pt_cmpR op_ne (pv 18) (pv 6) (nomark _)))) (fun _ _ _ _ _ => (pv 18))) pa_nil)))))
      (pss_cons (ps_par (i := 11) (j := 12) (by rfl) sc_law_goes_on.nd rfl rfl (by decide) rfl rfl (pa_cons (pe_call C_law_renumbered.G (hr.mono (by decide)) rfl C_law_renumbered.m C_law_renumbered.kp C_law_renumbered.b .nil pass0 (pa_cons (pv 1) (pa_cons (pv 10) pa_nil))) (pa_cons (pe_call C_law_number.G (hr.mono (by decide)) rfl C_law_number.m C_law_number.kp C_law_number.b .nil pass0 (pa_cons (pv 0) (pa_cons (pe_op op_pow pe_int pe_int) pa_nil))) pa_nil)) (by rfl))
      (pss_cons (ps_asg (pe_call C_law_run.G (hr.mono (by decide)) rfl C_law_run.m C_law_run.kp C_law_run.b .nil pass0 (pa_cons (pv 1) (pa_cons (pv 2) (pa_cons (pe_op op_add (pv 3) (pv 12)) pa_nil)))) (pg_tup rfl (pgs_cons (pg_name (i := 13) sc_law_goes_on.nd rfl (Or.inl rfl)) (pgs_cons (pg_name (i := 14) sc_law_goes_on.nd rfl (Or.inl rfl)) (pgs_cons (pg_name (i := 15) sc_law_goes_on.nd rfl (Or.inl rfl)) (pgs_cons (pg_name (i := 16) sc_law_goes_on.nd rfl (Or.inl rfl)) pgs_nil))))))
      (pss_cons (ps_set (i := 17) sc_law_goes_on.nd rfl (Or.inl rfl) (pe_lst (pa_cons (pe_call C_stands.G (hr.mono (by decide)) rfl C_stands.m C_stands.kp C_stands.b .nil pass0 (pa_cons (pv 11) (pa_cons (pv 7) (pa_cons (pv 12) pa_nil)))) (pa_cons (pe_call C_answer.G (hr.mono (by decide)) rfl C_answer.m C_answer.kp C_answer.b .nil pass0 (pa_cons (pv 11) (pa_cons (pv 7) pa_nil))) (pa_cons (pe_call C_length.G (hr.mono (by decide)) rfl C_length.m C_length.kp C_length.b .nil pass0 (pa_cons (pv 11) (pa_cons (pv 7) pa_nil))) pa_nil)))))
      (pss_one (ps_ret (pe_cmpR op_eq (pe_callB (call_reprD hgd hr.units) (by rfl) T.repr_ (by decide +kernel) (pa_cons (pv 17) pa_nil)) (pe_callB (call_reprD hgd hr.units) (by rfl) T.repr_ (by decide +kernel) (pa_cons (pe_lst (pa_cons (pe_tup (pa_cons (pe_bm PySem.F.plainAttrs_list PySem.F.slot_list_index PySem.F.type_list_index mt_index (pv 10) (pa_cons (pv 13) pa_nil)) (pa_cons (pv 14) pa_nil))) (pa_cons (pv 4) (pa_cons (pe_ifExp (pt_cmp (pc_isN (pv 5)) rfl) pe_non (pe_op op_sub (pv 5) (pv 8))) pa_nil)))) pa_nil)) (nomark _))))))))))), ?_⟩
    have e18 : (10 : Nat) ^ 18 = 1000000000000000000 := by decide
    have e30 : (10 : Nat) ^ 30 = 1000000000000000000000000000000 := by decide
    have i18 : (10 : Int) ^ 18 = 1000000000000000000 := by decide
    have big : 10000 < sizeLine := by decide
    have hl6 := o.l6
    refine ⟨_, rfl, _, rfl, _, rfl, a, G, c, cnt, rfl, hG, o, c0, by omega, fun H1 t s g rf S1 ht hP => ⟨t, _, rfl, SqT.of ht, rfl, _, _, rfl, _, _, rfl, _, _, rfl, _, _, rfl, rfl, ?_⟩⟩
    show tSeq _ _ _ [some (.ref d), some (.ref a), some (.int c), some (.int (cnt : Int)), some (.str (wordO r)), some (lenV r), some (.int (s.1 : Int)), some (.int s.2), some (.int (g : Int)), some (.int rf), none, none, none, none, none, none, none, none, none] _
    have hpl := hP.1.1.lt
    have hnn := hP.1.1.nn
    have hgc := hP.1.1.gle
    have hrun := hP.run
    have hle := run_le o cnt (s := (0, c)) o.l1
    rw [hrun] at hle
    have hle : s.2 ≤ c + 4 * (cnt : Int) := hle
    have sm1 : Sm 0 151 (.int (s.1 : Int)) := smInt (by omega)
    have sm2 : Sm 0 151 (.int s.2) := smInt (by omega)
    have sm12 := sm1.tup2 sm2
    have hG1 := hG.mono (Same.tups S1)
    have D1 : Drw d l0 l1 H H1 := Drw.same hD S1
    -- if repr(stands(..)) != repr((place, counter))
    refine ⟨_, rfl, _, rfl, _, rfl, a, G, c, cnt, rfl, hG1, o, c0, fun H2 st S2 hst => ?_⟩
    rw [hrun] at hst
    refine ⟨st, _, rfl, .tup (SqT.of hst) (.cons (.int _) (.cons (.int _) .nil)), sm12.sh, sm12.nd, Nat.lt_of_le_of_lt sm12.dp (by decide), sm12.fits (by decide), ?_⟩
    refine ⟨_, rfl, _, rfl, (by show 2 ≤ sizeLine; decide), fun t2 ht2 => ?_⟩
    have S3 := Same.new (o := HO.tup [.int (s.1 : Int), .int s.2]) ht2
    refine ⟨t2, _, rfl, .tup (SqT.of upd_same) (.cons (.int _) (.cons (.int _) .nil)), sm12.sh, sm12.nd, Nat.lt_of_le_of_lt sm12.dp (by decide), sm12.fits (by decide), ?_⟩
    refine ⟨rfl, _, rfl, itN (fun hne => absurd rfl hne) fun _ => ?_⟩
    have D3 := (D1.thn S2).thn S3
    generalize upd H2 t2 (.tup [.int (s.1 : Int), .int s.2]) = H3 at D3 S3
    -- if counter > 10 ** 18
    refine ⟨_, rfl, 10, 18, rfl, rfl, ⟨by decide, by decide, by decide⟩, _, _, rfl, rfl, _, rfl, itD (fun _ => k H3 D3) fun hc => ?_⟩
    have hc : ¬ ((10 : Int) ^ 18 < s.2) := hc
    have hG3 := hG.mono (Drw.tups hD D3)
    obtain ⟨as, a1, a2, _⟩ := id hG3
    -- order
    refine ⟨_, rfl, (by show 1 ≤ sizeLine; decide), fun LP hLP => ?_⟩
    have S4 : Same H3 (upd H3 LP (.lst [.int (s.1 : Int)])) := Same.new hLP
    have eLP : upd H3 LP (.lst [.int (s.1 : Int)]) LP = some (.lst [.int (s.1 : Int)]) := upd_same
    have nLP := D3.k.ne hLP
    have D4 := D3.thn S4
    have hG4 := hG3.mono (Same.tups S4)
    generalize upd H3 LP (.lst [.int (s.1 : Int)]) = H4 at S4 eLP D4 hG4
    refine ⟨_, rfl, _, rfl, a, _, rfl, .inr (SqT.of (S4 _ _ a1)), _, rfl, by rw [List.length_map]; omega, by rw [List.length_map]; omega, fun C hC => ?_⟩
    have hLn : (((as.map V.ref).length : Nat) : Int).toNat = G.length := by rw [List.length_map]; omega
    rw [hLn]
    refine lc_range (fun i H' => Same H4 H' ∧ H' C = some (.lst (((List.range i).filter fun x => decide (x ≠ s.1)).map fun (t : Nat) => V.int (t : Int)))) ⟨Same.new hC, upd_same⟩ ?_ ?_
    · rintro i H' hi ⟨S5, h5⟩
      have e0 : (0 : Int) + (i : Int) = (i : Int) := Int.zero_add _
      rw [e0]
      have hfl : ((List.range i).filter fun x => decide (x ≠ s.1)).length ≤ i := by
        have := List.length_filter_le (fun x => decide (x ≠ s.1)) (List.range i)
        rwa [List.length_range] at this
      refine ⟨rfl, _, rfl, _, rfl, rfl, _, rfl, itN (fun hne => ?_) fun heq => ?_⟩
      · have hne : i ≠ s.1 := fun z => hne (by rw [z])
        refine ⟨_, rfl, _, h5, by rw [List.length_map]; omega, Same.put S5 hC, ?_⟩
        rw [upd_same, List.range_succ, List.filter_append, List.map_append, List.filter_cons, decide_eq_true hne]
        rfl
      · have heq : i = s.1 := Int.ofNat.inj (vint.mp heq)
        refine ⟨S5, ?_⟩
        rw [h5, List.range_succ, List.filter_append, List.filter_cons, decide_eq_false (fun z => z heq)]
        show some (HO.lst _) = some (HO.lst (((List.range i).filter _ ++ []).map _))
        rw [List.append_nil]
    · rintro H5 ⟨S5, h5⟩
      have D5 := D4.thn S5
      have hfl : ((List.range G.length).filter fun x => decide (x ≠ s.1)).length ≤ G.length := by
        have := List.length_filter_le (fun x => decide (x ≠ s.1)) (List.range G.length)
        rwa [List.length_range] at this
      refine ⟨d, l0, l1, C, _, rfl, D5.k, h5, by rw [List.length_map]; omega, fun H6 b ys D6 hbn hb hperm => ?_⟩
      obtain ⟨l', hl', rfl⟩ := unV hperm
      have hO := ordOk hl6 hpl hl'
      have eLP6 := D6.of nLP (S5 _ _ eLP)
      refine ⟨LP, b, _, _, rfl, rfl, eLP6, hb, by rw [List.length_map, hl'.length_eq]; show 1 + _ ≤ sizeLine; omega, fun O hOn => ?_⟩
      have S7 : Same H6 (upd H6 O (.lst ((s.1 :: l').map fun (t : Nat) => V.int (t : Int)))) := Same.new hOn
      have eO : upd H6 O (.lst ((s.1 :: l').map fun (t : Nat) => V.int (t : Int))) O = some (.lst ((s.1 :: l').map fun (t : Nat) => V.int (t : Int))) := upd_same
      have nO := D6.k.ne hOn
      have D7 := (D5.trans D6).thn S7
      have hG7 := hG.mono (Drw.tups hD D7)
      generalize hH7 : upd H6 O (.lst ((s.1 :: l').map fun (t : Nat) => V.int (t : Int))) = H7 at S7 eO D7 hG7
      have e7 : upd H6 O (.lst ([V.int (s.1 : Int)] ++ l'.map fun (t : Nat) => V.int (t : Int))) = H7 := hH7
      rw [e7]
      generalize hord : s.1 :: l' = ord at hO eO
      -- moved, more
      refine ⟨_, rfl, _, rfl, a, O, G, _, ord, rfl, hG7, o, eO, hO, fun H8 mv S8 hmv => ⟨_, rfl, 10, 18, rfl, rfl, ⟨by decide, by decide, by decide⟩, d, l0, l1, 10 ^ 18, rfl, D7.k.mono S8, by decide, fun H9 mz D9 m0 m1 => ⟨_, _, rfl, ?_⟩⟩⟩
      obtain ⟨mo, rfl⟩ := asNat m0
      have hmo : mo ≤ 10 ^ 18 := by omega
      have hR := hO.ren
      have o' := (hR.ok o).roundM
      have hR1 := hR.ok o
      generalize hG' : ord.map (ren1 G ord) = G' at hR o' hmv hR1
      have D8 := D7.thn S8
      have DD9 := D8.trans D9
      have eO9 := D9.of nO (S8 _ _ eO)
      have hmv9 := hmv.mono (Drw.tups (D7.k.mono S8) D9)
      -- the run to the end
      refine ⟨_, rfl, _, rfl, _, rfl, _, rfl, _, _, rfl, rfl, a, G, c, cnt + mo, rfl, hG.mono (Drw.tups hD DD9), o, c0, by omega, fun H10 t3 s2 g2 rf2 S10 ht3 hP2 => ⟨t3, _, rfl, SqT.of ht3, rfl, _, _, rfl, _, _, rfl, _, _, rfl, _, _, rfl, rfl, ?_⟩⟩
      have hmv10 := hmv9.mono (Same.tups S10)
      have eO10 := S10 _ _ eO9
      show tSeq _ _ _ [some (.ref d), some (.ref a), some (.int c), some (.int (cnt : Int)), some (.str (wordO r)), some (lenV r), some (.int (s.1 : Int)), some (.int s.2), some (.int (g : Int)), some (.int rf), some (.ref O), some (.ref mv), some (.int (mo : Int)), some (.int (s2.1 : Int)), some (.int s2.2), some (.int (g2 : Int)), some (.int rf2), none, none] _
      -- stands, answer, length of the other
      refine ⟨_, rfl, _, rfl, _, rfl, mv, G', s.2, mo, rfl, hmv10, o', hnn, fun H11 st2 S11 hst2 => ⟨_, rfl, _, rfl, mv, G', s.2, rfl, hmv10.mono (Same.tups S11), o', hnn, fun H12 ra S12 hA1 => ⟨_, rfl, _, rfl, mv, G', s.2, rfl, (hmv10.mono (Same.tups S11)).mono (Same.tups S12), o', hnn, fun H13 rb S13 hA2 => ?_⟩⟩⟩
      -- what they are
      have h0 : (0 : Nat) < G'.length := by have := o'.l1; omega
      have hphi : K53M.phi ord (0, s.2) = s := by
        rw [← hord]
        rfl
      obtain ⟨hlater, hgN⟩ := hP.later hA
      have hAns : K53M.Ans G' (0, s.2) (r.map fun x => (x.1, x.2 - g)) := hR.ans o (s := (0, s.2)) h0 (by rw [hphi]; exact hlater)
      have era := K53M.Ans.uniq hA1 hAns
      have erb := K53M.Ans.uniq hA2 hAns
      subst era
      subst erb
      have hu := hR.phi_run o mo (s := (0, s.2)) h0
      rw [hphi, ← hrun, ← K53M.runN_add, hP2.run, hrun] at hu
      have hul := hR1.runN_lt mo (s := (0, s.2)) h0
      generalize hU : K53M.runN G' mo (0, s.2) = u at hu hul hst2
      have hu1 : s2.1 = ord.getD u.1 0 := by rw [hu]; rfl
      have hu2 : s2.2 = u.2 := by rw [hu]; rfl
      obtain ⟨q, hq1, hq2, hq3⟩ := hR.get hul
      rw [hq3] at hu1
      have hw : wordO (r.map fun x => (x.1, x.2 - g)) = wordO r := by
        cases r with
        | none => rfl
        | some z => rfl
      have hN' : ∀ w N, (r.map fun x => (x.1, x.2 - g)) = some (w, N) → N ≤ 10 ^ 30 := fun w N e => by
        cases r with
        | none => cases e
        | some z =>
          obtain ⟨w2, N2⟩ := z
          have h1 := hN w2 N2 rfl
          cases e
          omega
      have hD3 : ∀ K H', Dp K H' (lenV (r.map fun x => (x.1, x.2 - g))) (lenD (r.map fun x => (x.1, x.2 - g))) := fun K H' => dpLen _
      have hle2 := run_le o (cnt + mo) (s := (0, c)) o.l1
      rw [hP2.run] at hle2
      have hle2 : s2.2 ≤ c + 4 * ((cnt + mo : Nat) : Int) := hle2
      have hnn2 := hP2.1.1.nn
      have smu : Sm 1 _ (.tuple [.int (u.1 : Int), .int u.2]) := (smInt (i := (u.1 : Int)) (by have := o'.l6; omega)).tup2 (smInt (i := u.2) (by omega))
      have smD := smu.list3 (smWord r).more (smLen hN').more
      generalize hrr : (r.map fun x => (x.1, x.2 - g)) = r' at *
      refine ⟨(by show 3 ≤ sizeLine; decide), fun FL hFL => ?_⟩
      have S14 := Same.new (o := HO.lst [.ref st2, .str (wordO r'), lenV r']) hFL
      have eFL : upd H13 FL (.lst [.ref st2, .str (wordO r'), lenV r']) FL = some (.lst [.ref st2, .str (wordO r'), lenV r']) := upd_same
      have est := S14 _ _ (S13 _ _ (S12 _ _ hst2))
      have eO14 := S14 _ _ (S13 _ _ (S12 _ _ (S11 _ _ eO10)))
      have D14 := ((((DD9.thn S10).thn S11).thn S12).thn S13).thn S14
      generalize upd H13 FL (.lst [.ref st2, .str (wordO r'), lenV r']) = H14 at S14 eFL est eO14 D14
      rw [hw] at eFL
      refine ⟨_, rfl, FL, .list [.tuple [.int (u.1 : Int), .int u.2], .str (wordO r), lenD r'], rfl, .lst (SqL.of eFL) (.cons (.tup (SqT.of est) (.cons (.int _) (.cons (.int _) .nil))) (.cons (.str _) (.cons (dpLen _) .nil))), smD.sh, smD.nd, Nat.lt_of_le_of_lt smD.dp (by decide), smD.fits (by decide), ?_⟩
      have fin : ∀ (H' : Hp) (RL tp : Addr) (v3 : V), H' RL = some (.lst [.ref tp, .str (wordO r), v3]) → H' tp = some (.tup [.int (u.1 : Int), .int s2.2]) → Dp K H' v3 (lenD r') → Drw d l0 l1 H H' → ∃ (a : Addr) (dd : PyData), [V.ref RL] = [.ref a] ∧ Dp K H' (.ref a) dd ∧ dd.showable = true ∧ dd.hasDict = false ∧ dd.depth < 60 ∧ dd.shown.length ≤ sizeLine ∧
          scal (.str (PyData.shown (.list [.tuple [.int (u.1 : Int), .int u.2], .str (wordO r), lenD r']))) (.str dd.shown) = true ∧ Q (.bl (decide (V.str (PyData.shown (.list [.tuple [.int (u.1 : Int), .int u.2], .str (wordO r), lenD r'])) = V.str dd.shown))) H' := by
        intro H' RL tp v3 e1 e2 e3 DH
        rw [hu2] at e2
        refine ⟨RL, .list [.tuple [.int (u.1 : Int), .int u.2], .str (wordO r), lenD r'], rfl, .lst (SqL.of e1) (.cons (.tup (SqT.of e2) (.cons (.int _) (.cons (.int _) .nil))) (.cons (.str _) (.cons e3 .nil))), smD.sh, smD.nd, Nat.lt_of_le_of_lt smD.dp (by decide), smD.fits (by decide), rfl, ?_⟩
        rw [decide_eq_true rfl]
        exact k H' DH
      have hys : (ord.map fun (t : Nat) => V.int (t : Int))[u.1]? = some (.int (q : Int)) := by
        rw [List.getElem?_map, hq1]
        rfl
      have hflat : (ord.map fun (t : Nat) => V.int (t : Int)).all flatV = true := by
        rw [List.all_map]
        exact List.all_eq_true.mpr fun _ _ => rfl
      have hno : ∀ (m : Nat) (z' : V), m < u.1 → (ord.map fun (t : Nat) => V.int (t : Int))[m]? = some z' → eqV z' (.int (s2.1 : Int)) = false := fun m z' hm e => by
        rw [List.getElem?_map] at e
        cases ez : ord[m]? with
        | none => rw [ez] at e; cases e
        | some y =>
          rw [ez] at e
          obtain rfl : V.int (y : Int) = z' := Option.some.inj e
          show ((y : Int) == (s2.1 : Int)) = false
          refine beq_false_of_ne fun z => ?_
          have hy : y = q := by rw [← hu1]; exact Int.ofNat.inj z
          obtain ⟨hm1, hm2⟩ := List.getElem?_eq_some_iff.mp ez
          obtain ⟨hu3, hu4⟩ := List.getElem?_eq_some_iff.mp hq1
          have := nodup_at hR.nd ez (by rw [hy]; exact hq1)
          omega
      refine ⟨_, rfl, .inl ⟨rfl, _, SqL.of eO14⟩, _, rfl, O, _, _, u.1, .int (q : Int), rfl, rfl, SqL.of eO14, rfl, hflat, hys, (by rw [← hu1]; show ((s2.1 : Int) == (s2.1 : Int)) = true; exact beq_self_eq_true _), hno, _, rfl, (by show 2 ≤ sizeLine; decide), fun tp htp => ⟨_, rfl, ?_⟩⟩
      have S15 := Same.new (o := HO.tup [.int (u.1 : Int), .int s2.2]) htp
      have D15 := D14.thn S15
      have etp : upd H14 tp (.tup [.int (u.1 : Int), .int s2.2]) tp = some (.tup [.int (u.1 : Int), .int s2.2]) := upd_same
      generalize upd H14 tp (.tup [.int (u.1 : Int), .int s2.2]) = H15 at D15 etp
      cases r with
      | none =>
        subst hrr
        exact ⟨_, rfl, _, rfl, itD (fun _ => ⟨(by show 3 ≤ sizeLine; decide), fun RL hRL => fin _ RL tp .non upd_same ((Same.new hRL) _ _ etp) .non (D15.thn (Same.new hRL))⟩) fun z => absurd rfl z⟩
      | some rz =>
        obtain ⟨wz, Nz⟩ := rz
        subst hrr
        have hg := hgN wz Nz rfl
        refine ⟨_, rfl, _, rfl, itD (fun z => (by cases z)) fun _ => ⟨_, rfl, _, rfl, _, _, rfl, rfl, (by show 3 ≤ sizeLine; decide), fun RL hRL => fin _ RL tp _ upd_same ((Same.new hRL) _ _ etp) ?_ (D15.thn (Same.new hRL))⟩⟩
        show Dp K _ (.int ((Nz : Int) - (g : Int))) (.int ((Nz - g : Nat) : Int))
        rw [show ((Nz - g : Nat) : Int) = (Nz : Int) - (g : Int) by omega]
        exact .int _
end
end K53
end

section
set_option Elab.async false
set_option linter.all false
set_option maxRecDepth 100000
set_option maxHeartbeats 4000000
/-! K53: the law. -/
namespace K53
open PySem PySem.Spec PyProof.Rows L2
open K53M (Stp Pg S)
section
variable {X : Cx} {CX : CXT} {k : Nat} {f : Addr} {fd : FuncData} {ps ks : List Str} {sp : Sp} {E : XK} {x : Str} {p pos : Pos} {kws : List Keyword} {tk : TA} {g : List Value → List Value → List Value} {gV : List V → List V → List V}
/-- f(k = v, ..), nothing by position -/
theorem pe_callKw (F : FnOk X.prog X.w X.K X.mg X.base CX k f fd ps sp) (hr : Room k X.A) (hg : Gl X x) (hm : X.mg x = some (.ref f)) (hk : PySem.W.keepIn X.K (.ref f) = true) (hb : KBinds X.K fd ps ks g gV) (hx : Passes CX X E)
    (hkw : PK X kws tk) (hall : (backToKw pos (keywordEach kws X.env)).all (·.1.isSome) = true := by rfl) (hks : (backToKw pos (keywordEach kws X.env)).filterMap (·.1) = ks := by rfl)
    (hdb : (x == ("__debug__" : Str)) = false := by decide)
    (hpl : ((backTo pos (starEach [] X.env)).any (·.1) || (backToKw pos (keywordEach kws X.env)).any (·.1.isNone)) = false := by rfl) :
    PE X (.Call (.Name x p) [] kws pos) (tCallK sp gV E tNil tk) := by
  refine ⟨fun pins s σ H Q I h => ?_⟩
  refine wpAny_Call_Name_kw (ld_glob I hg hm ?_ hdb)
  refine PySem.W.callWith_KW0 (h₀ := X.base) I.ok.mod.kin hk hall (thn (hkw.run pos pins s σ H _ I h) fun ws s2 ⟨zs, H2, I2, rz, q2⟩ => ⟨I2.kIn, ?_⟩) hpl
  rw [hks]
  exact run_fnk (us := []) (vs := []) F hr hb hx I2 .nil rz q2
end
/-- two keywords, the second parameter first -/
def swp {α : Type} : List α → List α → List α
  | [], [n, p] => [p, n]
  | _, _ => []
section
variable {P : Program} {w : World} {K : PySem.W.Frag} {mg : Str → Option Value} {base : Heap} {f : Addr} {fd : FuncData} {cR cY cW : Addr} {tN : Tok}
def spLaw (K : PySem.W.Frag) : Sp := fun vs H Q _ => ∃ (a : Addr) (ns : List Int), vs = [.ref a] ∧ SqL K H a (ns.map V.int) ∧ ns.length ≤ 1000 ∧ ∀ H', Q (.bl true) H'
theorem ok_law (T : Txt K mg cR cY cW tN) (F : FnP K "law" "law" s_law f fd) {f1 fd1 f2 fd2 f3 fd3 f4 fd4 f5 fd5 f6 fd6 f7 fd7 f8 fd8 f9 fd9 fA fdA} (C_law_deck : CalOk P w K mg base "_law_deck" 1 ["_law_script"] (spDeck K) f1 fd1)
    (C_law_any : CalOk P w K mg base "_law_any" 5 ["_law_deck_here"] spPg f2 fd2) (C_law_number : CalOk P w K mg base "_law_number" 3 ["_law_deck_here", "_law_most"] spNum f3 fd3) (C_law_far : CalOk P w K mg base "_law_far" 2 ["_law_deck_here", "_law_many"] spFar f4 fd4)
    (C_law_draw : CalOk P w K mg base "_law_draw" 1 ["_law_deck_here", "_law_many"] spDraw f5 fd5) (C_law_answer : CalOk P w K mg base "_law_answer" 4 ["_law_program_here", "_law_number_here"] spLA f6 fd6) (C_answer : CalOk P w K mg base "answer" 6 ["program", "number"] spAnswer f7 fd7)
    (C_length : CalOk P w K mg base "length" 6 ["program", "number"] spLength f8 fd8) (Kw : KBinds K fd8 ["program", "number"] ["number", "program"] swp swp) (C_law_mixed : CalOk P w K mg base "_law_mixed" 2 ["_law_deck_here", "_law_items"] spMix f9 fd9)
    (C_law_goes_on : CalG P w K mg base "_law_goes_on" 8 ["_law_deck_here", "_law_program_here", "_law_number_here", "_law_count", "_law_word", "_law_steps"] spGoes fA fdA) : GOk P w K mg base 9 f fd ["_law_script"] (spLaw K) := by
  refine gok_of F sc_law (fun vs H Q E h => ?_) (fun cdv A outer s0 H vs Q E hgd hr h => ?_)
  · obtain ⟨a, ns, rfl, _⟩ := h
    rfl
  · obtain ⟨a, ns, rfl, hsq, hn, k⟩ := h
    refine ⟨_, PSs.nox (pss_cons (ps_set (i := 1) sc_law.nd rfl (Or.inl rfl) (pe_call C_law_deck.G (hr.mono (by decide)) rfl C_law_deck.m C_law_deck.kp C_law_deck.b .nil pass0 (pa_cons (pv 0) pa_nil)))
      (pss_cons (ps_for PassesOwn.never rfl (pi_range1 rfl T.range_ (pa_cons pe_int pa_nil)) (pg_name (i := 2) sc_law.nd rfl (Or.inl rfl)) (pss_cons (ps_set (i := 3) sc_law.nd rfl (Or.inl rfl) (pe_call C_law_any.G (hr.mono (by decide)) rfl C_law_any.m C_law_any.kp C_law_any.b .nil pass0 (pa_cons (pv 1) pa_nil)))
      (pss_one (ps_for PassesOwn.never rfl (pi_list (pe_lst (pa_cons (pe_call C_law_number.G (hr.mono (by decide)) rfl C_law_number.m C_law_number.kp C_law_number.b .nil pass0 (pa_cons (pv 1) (pa_cons (pe_op op_pow pe_int pe_int) pa_nil))) (pa_cons (pe_call C_law_far.G (hr.mono (by decide)) rfl C_law_far.m C_law_far.kp C_law_far.b .nil pass0 (pa_cons (pv 1) (pa_cons (pe_op op_pow pe_int pe_int) pa_nil))) (pa_cons (pe_op op_sub (pe_op op_pow pe_int pe_int) (pe_call C_law_draw.G (hr.mono (by decide)) rfl C_law_draw.m C_law_draw.kp C_law_draw.b .nil pass0 (pa_cons (pv 1) (pa_cons pe_int pa_nil)))) pa_nil))))) (pg_name (i := 4) sc_law.nd rfl (Or.inl rfl)) (pss_cons (ps_asg (pe_call C_law_answer.G (hr.mono (by decide)) rfl C_law_answer.m C_law_answer.kp C_law_answer.b .nil pass0 (pa_cons (pv 3) (pa_cons (pv 4) pa_nil))) (pg_tup rfl (pgs_cons (pg_name (i := 5) sc_law.nd rfl (Or.inl rfl)) (pgs_cons (pg_name (i := 6) sc_law.nd rfl (Or.inl rfl)) pgs_nil))))
      (pss_cons (ps_set (i := 7) sc_law.nd rfl (Or.inl rfl) (pe_lst (pa_cons (pe_call C_answer.G (hr.mono (by decide)) rfl C_answer.m C_answer.kp C_answer.b .nil pass0 (pa_cons (pv 3) (pa_cons (pv 4) pa_nil))) (pa_cons (pe_call C_length.G (hr.mono (by decide)) rfl C_length.m C_length.kp C_length.b .nil pass0 (pa_cons (pv 3) (pa_cons (pv 4) pa_nil))) (pa_cons (pe_callKw C_length.G (hr.mono (by decide)) rfl C_length.m C_length.kp Kw pass0 (pk_cons (pv 4) (pk_cons (pv 3) pk_nil))) pa_nil)))))
      (pss_cons (ps_if (pt_cmpR op_ne (pe_callB (call_reprD hgd hr.units) (by rfl) T.repr_ (by decide +kernel) (pa_cons (pv 7) pa_nil)) (pe_callB (call_reprD hgd hr.units) (by rfl) T.repr_ (by decide +kernel) (pa_cons (pe_lst (pa_cons (pv 5) (pa_cons (pv 6) (pa_cons (pv 6) pa_nil)))) pa_nil)) (nomark _)) (pss_one (ps_ret pe_bl)) pss_nil)
      (pss_cons (ps_set (i := 8) sc_law.nd rfl (Or.inl rfl) (pe_lst (pa_cons (pe_call C_law_far.G (hr.mono (by decide)) rfl C_law_far.m C_law_far.kp C_law_far.b .nil pass0 (pa_cons (pv 1) (pa_cons (pe_op op_add (pe_op op_pow pe_int pe_int) pe_int) pa_nil))) (pa_cons (pe_call C_law_number.G (hr.mono (by decide)) rfl C_law_number.m C_law_number.kp C_law_number.b .nil pass0 (pa_cons (pv 1) (pa_cons (pe_op op_pow pe_int pe_int) pa_nil))) (pa_cons (pe_call C_law_draw.G (hr.mono (by decide)) rfl C_law_draw.m C_law_draw.kp C_law_draw.b .nil pass0 (pa_cons (pv 1) (pa_cons pe_int pa_nil))) pa_nil)))))
      (pss_cons (ps_if (pt_cmp (pc_notN (pv 6)) rfl) (pss_one (ps_set (i := 8) sc_law.nd rfl (Or.inl rfl) (pe_op op_cat (pv 8) (pe_lc (own := [("_law_own", 10)]) (by rfl) sc_law.nd (pi_list (pe_lst (pa_cons (pe_op op_sub (pv 6) pe_int) (pa_cons (pv 6) (pa_cons (pe_op op_add (pv 6) pe_int) pa_nil))))) (blkOk_by (N := N_law) (sc := defScope s_law) (by decide +kernel)) (fun _ _ _ _ _ => (pg_name (i := 10) sc_law.nd rfl (Or.inl rfl))) (fun _ _ _ _ _ => (pts_one (pt_chain op_le op_le pe_int (pv 10) (pe_op op_pow pe_int pe_int)))) (fun _ _ _ _ _ => (pv 10)))))) pss_nil)
      (pss_one (ps_for PassesOwn.never rfl (pi_list (pe_slice sl_list (pe_call C_law_mixed.G (hr.mono (by decide)) rfl C_law_mixed.m C_law_mixed.kp C_law_mixed.b .nil pass0 (pa_cons (pv 1) (pa_cons (pv 8) pa_nil))) po_none (po_some pe_int))) (pg_name (i := 9) sc_law.nd rfl (Or.inl rfl)) (pss_one (ps_if (pt_not (pt_val (pe_callG C_law_goes_on.G hgd (hr.mono (by decide)) rfl C_law_goes_on.m C_law_goes_on.kp C_law_goes_on.b (pa_cons (pv 1) (pa_cons (pv 3) (pa_cons (pv 4) (pa_cons (pv 9) (pa_cons (pv 5) (pa_cons (pv 6) pa_nil))))))))) (pss_one (ps_ret pe_bl)) pss_nil)))))))))))))
      (pss_one (ps_ret pe_bl)))), ?_⟩
    have i18 : (10 : Int) ^ 18 = 1000000000000000000 := by decide
    have e18 : (10 : Nat) ^ 18 = 1000000000000000000 := by decide
    have e30 : (10 : Nat) ^ 30 = 1000000000000000000000000000000 := by decide
    have big : 10000 < sizeLine := by decide
    have cp : CPow 10 18 := ⟨by decide, by decide, by decide⟩
    refine ⟨_, rfl, a, ns, rfl, hsq, hn, (fun H' S => SqL.ext hsq S), fun H1 d l0 l1 S1 hD => ?_⟩
    refine ⟨4, rfl, by decide, by decide, fun i m σ H' => m = 4 - i ∧ ∃ v2 v3 v4 v5 v6 v7 v8 v9 : Option V, σ = [some (.ref a), some (.ref d), v2, v3, v4, v5, v6, v7, v8, v9, none] ∧ DeckAt H' d l0 l1, ⟨4, rfl, none, none, none, none, none, none, none, none, rfl, hD⟩, ?_⟩
    rintro i m σ H2 ⟨rfl, v2, v3, v4, v5, v6, v7, v8, v9, rfl, hD2⟩
    by_cases hi : i < 4
    · refine .inr ⟨hi, _, fun _ _ z => z, fun y H3 hy => ?_⟩
      obtain ⟨rfl, hy⟩ := hy
      rw [Int.zero_add] at hy
      subst hy
      refine ⟨_, rfl, d, l0, l1, rfl, hD2, fun H4 b G D4 hG o => ?_⟩
      -- the numbers
      refine ⟨_, rfl, 10, 18, rfl, rfl, cp, d, l0, l1, _, rfl, D4.k, by decide, fun H5 n1 D5 n10 n11 => ⟨_, rfl, 10, 18, rfl, rfl, cp, d, l0, l1, _, rfl, D5.k, by decide, fun H6 n2 D6 n20 n21 => ⟨10, 18, rfl, rfl, cp, _, rfl, d, l0, l1, 90, rfl, D6.k, by decide, by decide, fun H7 n3 D7 n30 n31 => ⟨_, _, rfl, rfl, (by show 3 ≤ sizeLine; decide), fun NL hNL => ?_⟩⟩⟩⟩
      have n11' : n1 ≤ 10 ^ 18 := n11
      have n21' : n2 < 10 ^ 18 := n21
      have hzs : ∀ z ∈ [n1, n2, 10 ^ 18 - n3], 0 ≤ z ∧ z ≤ 10 ^ 18 := fun z hz => by
        simp only [List.mem_cons, List.not_mem_nil, or_false] at hz
        omega
      have eNL0 : upd H7 NL (.lst ([n1, n2, 10 ^ 18 - n3].map V.int)) NL = some (.lst ([n1, n2, 10 ^ 18 - n3].map V.int)) := upd_same
      have S8 : Same H7 (upd H7 NL (.lst ([n1, n2, 10 ^ 18 - n3].map V.int))) := Same.new hNL
      have nNL := D7.k.ne hNL
      have D48 := ((D5.trans D6).trans D7).thn S8
      refine ⟨NL, rfl, ⟨_, SqL.of eNL0⟩, ?_⟩
      generalize hzl : [n1, n2, 10 ^ 18 - n3] = zs at hzs eNL0 D48
      have e0 : ∀ x, x = upd H7 NL (.lst ([n1, n2, 10 ^ 18 - n3].map V.int)) → x NL = some (.lst (zs.map V.int)) ∧ Drw d l0 l1 H4 x := fun x e => by
        rw [e, hzl]
        exact ⟨eNL0, D48⟩
      have e1 := e0 _ rfl
      refine for_list (K := K) (a := NL) (xs := zs.map V.int) (fun _ σ H' => ∃ v4 v5 v6 v7 v8 v9 : Option V, σ = [some (.ref a), some (.ref d), some (.int (i : Int)), some (.ref b), v4, v5, v6, v7, v8, v9, none] ∧ Drw d l0 l1 H4 H' ∧ H' NL = some (.lst (zs.map V.int)))
        ⟨v4, v5, v6, v7, v8, v9, rfl, e1.2, e1.1⟩ (fun _ σ H' _ e => by obtain ⟨_, _, _, _, _, _, _, _, e⟩ := e; exact SqL.of e) ?_ ?_
      · rintro i2 x σ H9 hx ⟨w4, w5, w6, w7, w8, w9, rfl, DNL, eNL⟩
        obtain ⟨z, hz, rfl⟩ := memInts (List.mem_of_getElem? hx)
        obtain ⟨hz0, hz1⟩ := hzs z hz
        have hGN9 := hG.mono (Drw.tups D4.k DNL)
        refine ⟨_, rfl, _, rfl, b, G, z, rfl, hGN9, o, hz0, hz1, fun H10 t r S10 hA hN ht => ⟨t, _, rfl, SqT.of ht, rfl, _, _, rfl, _, _, rfl, rfl, ?_⟩⟩
        have hG10 := hGN9.mono (Same.tups S10)
        show tSeq _ _ _ [some (.ref a), some (.ref d), some (.int (i : Int)), some (.ref b), some (.int z), some (.str (wordO r)), some (lenV r), w7, w8, w9, none] _
        -- found
        refine ⟨_, rfl, _, rfl, b, G, z, rfl, hG10, o, hz0, fun H11 ra S11 hA1 => ⟨_, rfl, _, rfl, b, G, z, rfl, hG10.mono (Same.tups S11), o, hz0, fun H12 rb S12 hA2 => ⟨_, rfl, _, rfl, b, G, z, rfl, (hG10.mono (Same.tups S11)).mono (Same.tups S12), o, hz0, fun H13 rc S13 hA3 => ?_⟩⟩⟩
        obtain rfl := K53M.Ans.uniq hA1 hA
        obtain rfl := K53M.Ans.uniq hA2 hA
        obtain rfl := K53M.Ans.uniq hA3 hA
        refine ⟨(by show 3 ≤ sizeLine; decide), fun FL hFL => ?_⟩
        have smD := (smWord rc).list3 (smLen hN) (smLen hN)
        have eFL : upd H13 FL (.lst [.str (wordO rc), lenV rc, lenV rc]) FL = some (.lst [.str (wordO rc), lenV rc, lenV rc]) := upd_same
        have S14 := Same.new (o := HO.lst [.str (wordO rc), lenV rc, lenV rc]) hFL
        refine ⟨_, rfl, FL, .list [.str (wordO rc), lenD rc, lenD rc], rfl, .lst (SqL.of eFL) (.cons (.str _) (.cons (dpLen _) (.cons (dpLen _) .nil))), smD.sh, smD.nd, Nat.lt_of_le_of_lt smD.dp (by decide), smD.fits (by decide), ?_⟩
        refine ⟨_, rfl, _, rfl, _, rfl, (by show 3 ≤ sizeLine; decide), fun RL hRL => ?_⟩
        have S15 := Same.new (o := HO.lst [.str (wordO rc), lenV rc, lenV rc]) hRL
        refine ⟨RL, .list [.str (wordO rc), lenD rc, lenD rc], rfl, .lst (SqL.of upd_same) (.cons (.str _) (.cons (dpLen _) (.cons (dpLen _) .nil))), smD.sh, smD.nd, Nat.lt_of_le_of_lt smD.dp (by decide), smD.fits (by decide), ?_⟩
        refine ⟨rfl, _, rfl, itN (fun hne => absurd rfl hne) fun _ => ?_⟩
        have D15 : Drw d l0 l1 H9 _ := Drw.same DNL.k (((((S10.trans S11).trans S12).trans S13).trans S14).trans S15)
        have hDN := DNL.k
        generalize upd (upd H13 FL (.lst [.str (wordO rc), lenV rc, lenV rc])) RL (.lst [.str (wordO rc), lenV rc, lenV rc]) = H15 at D15
        -- counts
        refine ⟨_, rfl, 10, 18, rfl, rfl, cp, _, _, rfl, rfl, d, l0, l1, _, rfl, D15.k, by decide, fun H16 k1 D16 k10 k11 => ⟨_, rfl, 10, 18, rfl, rfl, cp, d, l0, l1, _, rfl, D16.k, by decide, fun H17 k2 D17 k20 k21 => ⟨_, rfl, d, l0, l1, 50, rfl, D17.k, by decide, by decide, fun H18 k3 D18 k30 k31 => ⟨(by show 3 ≤ sizeLine; decide), fun KL hKL => ?_⟩⟩⟩⟩
        have k11' : k1 < 10 ^ 18 + 1 := k11
        have k21' : k2 ≤ 10 ^ 18 := k21
        have hks : ∀ z ∈ [k1, k2, k3], 0 ≤ z ∧ z ≤ 10 ^ 18 := fun z hz => by
          simp only [List.mem_cons, List.not_mem_nil, or_false] at hz
          omega
        have S19 : Same H18 (upd H18 KL (.lst ([k1, k2, k3].map V.int))) := Same.new hKL
        have eKL : upd H18 KL (.lst ([k1, k2, k3].map V.int)) KL = some (.lst ([k1, k2, k3].map V.int)) := upd_same
        have D19 := (((D15.trans D16).trans D17).trans D18).thn S19
        cases rc with
        | none =>
          refine ⟨_, rfl, _, rfl, itN (fun z => absurd rfl z) fun _ => ?_⟩
          have DC := D19
          have hCL := eKL
          have hbd := hks
          have hxl : [k1, k2, k3].length ≤ 6 := by show 3 ≤ 6; decide
          -- for count in mixed(deck, counts)[:2]
          refine ⟨_, rfl, _, rfl, d, l0, l1, KL, _, rfl, DC.k, hCL, by rw [List.length_map]; omega, fun H20 mb ys D20 hmbn hmb hperm => ⟨2, rfl, mb, _, rfl, SqL.of hmb, fun SL hSL => ⟨SL, rfl, ⟨_, SqL.of upd_same⟩, ?_⟩⟩⟩
          have S21 : Same H20 (upd H20 SL (.lst (cutV ys none (some 2)))) := Same.new hSL
          have D21 : Drw d l0 l1 H9 (upd H20 SL (.lst (cutV ys none (some 2)))) := (DC.trans D20).thn S21
          have nSL := D20.k.ne hSL
          refine for_list (K := K) (a := SL) (xs := cutV ys none (some 2)) (fun _ σ H' => ∃ v9 : Option V, σ = [some (.ref a), some (.ref d), some (.int (i : Int)), some (.ref b), some (.int z), some (.str (wordO none)), some (lenV none), some (.ref FL), some (.ref KL), v9, none] ∧ Drw d l0 l1 H9 H' ∧ H' SL = some (.lst (cutV ys none (some 2))))
            ⟨w9, rfl, D21, upd_same⟩ (fun _ σ H' _ e => by obtain ⟨_, _, _, e⟩ := e; exact SqL.of e) ?_ ?_
          · rintro i3 y σ H22 hy ⟨v9, rfl, D22, e22⟩
            have hmem : y ∈ [k1, k2, k3].map V.int := hperm.mem_iff.mp (by
              have := List.mem_of_getElem? hy
              exact List.mem_of_mem_drop (List.mem_of_mem_take this))
            obtain ⟨yz, hyz, rfl⟩ := memInts hmem
            have hb2 := hbd yz hyz
            obtain ⟨cn, rfl⟩ := asNat hb2.1
            refine ⟨_, rfl, _, rfl, _, rfl, _, rfl, _, rfl, _, rfl, d, l0, l1, b, G, z, cn, none, rfl, D22.k, hGN9.mono (Drw.tups hDN D22), o, hz0, hz1, by omega, hA, hN, fun H23 D23 => ⟨_, rfl, ?_⟩⟩
            exact ⟨some _, rfl, D22.trans D23, D23.of nSL e22⟩
          · rintro σ H22 ⟨v9, rfl, D22, e22⟩
            exact ⟨some (.int z), some (.str (wordO none)), some (lenV none), some (.ref FL), some (.ref KL), v9, rfl, DNL.trans D22, D22.of nNL eNL⟩
        | some rz =>
          obtain ⟨wz, Nz⟩ := rz
          refine ⟨_, rfl, _, rfl, itN (fun _ => ?_) fun z => V.noConfusion (show V.int (Nz : Int) = V.non from z)⟩
          refine ⟨_, rfl, _, rfl, _, _, rfl, rfl, _, rfl, _, rfl, _, _, rfl, rfl, (by show 3 ≤ sizeLine; decide), fun OL hOL => ?_⟩
          have S20 : Same (upd H18 KL (.lst ([k1, k2, k3].map V.int))) (upd (upd H18 KL (.lst ([k1, k2, k3].map V.int))) OL (.lst ([(Nz : Int) - 1, (Nz : Int), (Nz : Int) + 1].map V.int))) := Same.new hOL
          have eOL : upd (upd H18 KL (.lst ([k1, k2, k3].map V.int))) OL (.lst ([(Nz : Int) - 1, (Nz : Int), (Nz : Int) + 1].map V.int)) OL = some (.lst ([(Nz : Int) - 1, (Nz : Int), (Nz : Int) + 1].map V.int)) := upd_same
          have eKL2 := S20 _ _ eKL
          have D20 := D19.thn S20
          refine ⟨OL, rfl, ⟨_, SqL.of eOL⟩, fun C hC => ?_⟩
          refine lc_list (K := K) (a := OL) (xs := [(Nz : Int) - 1, (Nz : Int), (Nz : Int) + 1].map V.int) (fun i H' => Same (upd (upd H18 KL (.lst ([k1, k2, k3].map V.int))) OL (.lst ([(Nz : Int) - 1, (Nz : Int), (Nz : Int) + 1].map V.int))) H' ∧ ∃ acc : List Int, H' C = some (.lst (acc.map V.int)) ∧ acc.length ≤ i ∧ ∀ z ∈ acc, 0 ≤ z ∧ z ≤ 10 ^ 18)
            ⟨Same.new hC, [], upd_same, Nat.le_refl _, fun z h => nomatch h⟩ (fun i H' _ e => SqL.of (e.1 _ _ eOL)) ?_ ?_
          · rintro i3 x H' hx ⟨S1, acc, h1, h2, h3⟩
            obtain ⟨y, _, rfl⟩ := memInts (List.mem_of_getElem? hx)
            have hi3 : i3 < 3 := (List.getElem?_eq_some_iff.mp hx).1
            refine ⟨rfl, _, rfl, _, _, rfl, rfl, _, rfl, itD (fun hy0 => ?_) fun _ => ?_⟩
            · have hy0 : 0 ≤ y := hy0
              refine ⟨10, 18, rfl, rfl, cp, _, _, rfl, rfl, _, rfl, itD (fun hy1 => ?_) fun _ => ⟨S1, acc, h1, by omega, h3⟩⟩
              have hy1 : y ≤ 10 ^ 18 := hy1
              refine ⟨_, rfl, _, h1, by rw [List.length_map]; omega, Same.put S1 hC, acc ++ [y], by rw [upd_same, List.map_append]; rfl, by rw [List.length_append]; show acc.length + 1 ≤ i3 + 1; omega, fun q hq => ?_⟩
              rcases List.mem_append.mp hq with e | e
              · exact h3 q e
              · rw [List.mem_singleton.mp e]
                exact ⟨hy0, hy1⟩
            · exact ⟨_, rfl, S1, acc, h1, by omega, h3⟩
          · rintro H21 ⟨S21, acc, h1, h2, h3⟩
            have h2 : acc.length ≤ 3 := h2
            refine ⟨KL, C, _, _, rfl, rfl, S21 _ _ eKL2, h1, by rw [List.length_map, List.length_map]; show 3 + acc.length ≤ sizeLine; omega, fun CL hCL0 => ?_⟩
            have DC := (D20.thn S21).thn (Same.new (o := .lst ([k1, k2, k3].map V.int ++ acc.map V.int)) hCL0)
            have hCL : upd H21 CL (.lst ([k1, k2, k3].map V.int ++ acc.map V.int)) CL = some (.lst (([k1, k2, k3] ++ acc).map V.int)) := by
              rw [upd_same, List.map_append]
            have hbd : ∀ z ∈ [k1, k2, k3] ++ acc, 0 ≤ z ∧ z ≤ 10 ^ 18 := fun z hz => by
              rcases List.mem_append.mp hz with e | e
              · exact hks z e
              · exact h3 z e
            have hxl : ([k1, k2, k3] ++ acc).length ≤ 6 := by
              rw [List.length_append]
              show 3 + acc.length ≤ 6
              omega
            -- for count in mixed(deck, counts)[:2]
            refine ⟨_, rfl, _, rfl, d, l0, l1, CL, _, rfl, DC.k, hCL, by rw [List.length_map]; omega, fun H20 mb ys D20 hmbn hmb hperm => ⟨2, rfl, mb, _, rfl, SqL.of hmb, fun SL hSL => ⟨SL, rfl, ⟨_, SqL.of upd_same⟩, ?_⟩⟩⟩
            have S21 : Same H20 (upd H20 SL (.lst (cutV ys none (some 2)))) := Same.new hSL
            have D21 : Drw d l0 l1 H9 (upd H20 SL (.lst (cutV ys none (some 2)))) := (DC.trans D20).thn S21
            have nSL := D20.k.ne hSL
            refine for_list (K := K) (a := SL) (xs := cutV ys none (some 2)) (fun _ σ H' => ∃ v9 : Option V, σ = [some (.ref a), some (.ref d), some (.int (i : Int)), some (.ref b), some (.int z), some (.str (wordO (some (wz, Nz)))), some (lenV (some (wz, Nz))), some (.ref FL), some (.ref CL), v9, none] ∧ Drw d l0 l1 H9 H' ∧ H' SL = some (.lst (cutV ys none (some 2))))
              ⟨w9, rfl, D21, upd_same⟩ (fun _ σ H' _ e => by obtain ⟨_, _, _, e⟩ := e; exact SqL.of e) ?_ ?_
            · rintro i3 y σ H22 hy ⟨v9, rfl, D22, e22⟩
              have hmem : y ∈ ([k1, k2, k3] ++ acc).map V.int := hperm.mem_iff.mp (by
                have := List.mem_of_getElem? hy
                exact List.mem_of_mem_drop (List.mem_of_mem_take this))
              obtain ⟨yz, hyz, rfl⟩ := memInts hmem
              have hb2 := hbd yz hyz
              obtain ⟨cn, rfl⟩ := asNat hb2.1
              refine ⟨_, rfl, _, rfl, _, rfl, _, rfl, _, rfl, _, rfl, d, l0, l1, b, G, z, cn, (some (wz, Nz)), rfl, D22.k, hGN9.mono (Drw.tups hDN D22), o, hz0, hz1, by omega, hA, hN, fun H23 D23 => ⟨_, rfl, ?_⟩⟩
              exact ⟨some _, rfl, D22.trans D23, D23.of nSL e22⟩
            · rintro σ H22 ⟨v9, rfl, D22, e22⟩
              exact ⟨some (.int z), some (.str (wordO (some (wz, Nz)))), some (lenV (some (wz, Nz))), some (.ref FL), some (.ref CL), v9, rfl, DNL.trans D22, D22.of nNL eNL⟩
      · rintro σ H9 ⟨w4, w5, w6, w7, w8, w9, rfl, D9, _⟩
        exact ⟨4 - (i + 1), by omega, rfl, _, _, _, _, _, _, _, _, rfl, D9.k⟩
    · exact .inl ⟨by show 4 ≤ i; omega, k H2⟩
end
end K53
end

section
set_option Elab.async false
set_option linter.all false
set_option maxRecDepth 100000
set_option maxHeartbeats 0
/-! K53: the head: facts by names, the run; all promises joined; the theorem. -/
namespace K53
open PySem PySem.Spec PyProof.Rows L2
def d_common_divisor : He.DefD := ⟨("common_divisor", none), "common_divisor", "common_divisor", defArgs s_common_divisor, defBody s_common_divisor, defScope s_common_divisor, [], []⟩
def d_common_multiple : He.DefD := ⟨("common_multiple", none), "common_multiple", "common_multiple", defArgs s_common_multiple, defBody s_common_multiple, defScope s_common_multiple, [], []⟩
def d_round_number : He.DefD := ⟨("round_number", none), "round_number", "round_number", defArgs s_round_number, defBody s_round_number, defScope s_round_number, [], []⟩
def d_free_step : He.DefD := ⟨("free_step", none), "free_step", "free_step", defArgs s_free_step, defBody s_free_step, defScope s_free_step, [], []⟩
def d_round_at : He.DefD := ⟨("round_at", none), "round_at", "round_at", defArgs s_round_at, defBody s_round_at, defScope s_round_at, [], []⟩
def d_course : He.DefD := ⟨("course", none), "course", "course", defArgs s_course, defBody s_course, defScope s_course, [], []⟩
def d_answer : He.DefD := ⟨("answer", none), "answer", "answer", defArgs s_answer, defBody s_answer, defScope s_answer, [], []⟩
def d_length : He.DefD := ⟨("length", none), "length", "length", defArgs s_length, defBody s_length, defScope s_length, [], []⟩
def d_go_far : He.DefD := ⟨("go_far", none), "go_far", "go_far", defArgs s_go_far, defBody s_go_far, defScope s_go_far, [], []⟩
def d_walk_by : He.DefD := ⟨("walk_by", none), "walk_by", "walk_by", defArgs s_walk_by, defBody s_walk_by, defScope s_walk_by, [], []⟩
def d_stands : He.DefD := ⟨("stands", none), "stands", "stands", defArgs s_stands, defBody s_stands, defScope s_stands, [], []⟩
def d_law_deck : He.DefD := ⟨("_law_deck", none), "_law_deck", "_law_deck", defArgs s_law_deck, defBody s_law_deck, defScope s_law_deck, [], []⟩
def d_law_draw : He.DefD := ⟨("_law_draw", none), "_law_draw", "_law_draw", defArgs s_law_draw, defBody s_law_draw, defScope s_law_draw, [], []⟩
def d_law_one : He.DefD := ⟨("_law_one", none), "_law_one", "_law_one", defArgs s_law_one, defBody s_law_one, defScope s_law_one, [], []⟩
def d_law_far : He.DefD := ⟨("_law_far", none), "_law_far", "_law_far", defArgs s_law_far, defBody s_law_far, defScope s_law_far, [], []⟩
def d_law_number : He.DefD := ⟨("_law_number", none), "_law_number", "_law_number", defArgs s_law_number, defBody s_law_number, defScope s_law_number, [], []⟩
def d_law_mixed : He.DefD := ⟨("_law_mixed", none), "_law_mixed", "_law_mixed", defArgs s_law_mixed, defBody s_law_mixed, defScope s_law_mixed, [], []⟩
def d_law_step_drawn : He.DefD := ⟨("_law_step_drawn", none), "_law_step_drawn", "_law_step_drawn", defArgs s_law_step_drawn, defBody s_law_step_drawn, defScope s_law_step_drawn, [], []⟩
def d_law_program : He.DefD := ⟨("_law_program", none), "_law_program", "_law_program", defArgs s_law_program, defBody s_law_program, defScope s_law_program, [], []⟩
def d_law_loops : He.DefD := ⟨("_law_loops", none), "_law_loops", "_law_loops", defArgs s_law_loops, defBody s_law_loops, defScope s_law_loops, [], []⟩
def d_law_any : He.DefD := ⟨("_law_any", none), "_law_any", "_law_any", defArgs s_law_any, defBody s_law_any, defScope s_law_any, [], []⟩
def d_law_common : He.DefD := ⟨("_law_common", none), "_law_common", "_law_common", defArgs s_law_common, defBody s_law_common, defScope s_law_common, [], []⟩
def d_law_size : He.DefD := ⟨("_law_size", none), "_law_size", "_law_size", defArgs s_law_size, defBody s_law_size, defScope s_law_size, [], []⟩
def d_law_free : He.DefD := ⟨("_law_free", none), "_law_free", "_law_free", defArgs s_law_free, defBody s_law_free, defScope s_law_free, [], []⟩
def d_law_run : He.DefD := ⟨("_law_run", none), "_law_run", "_law_run", defArgs s_law_run, defBody s_law_run, defScope s_law_run, [], []⟩
def d_law_answer : He.DefD := ⟨("_law_answer", none), "_law_answer", "_law_answer", defArgs s_law_answer, defBody s_law_answer, defScope s_law_answer, [], []⟩
def d_law_renumbered : He.DefD := ⟨("_law_renumbered", none), "_law_renumbered", "_law_renumbered", defArgs s_law_renumbered, defBody s_law_renumbered, defScope s_law_renumbered, [], []⟩
def d_law_goes_on : He.DefD := ⟨("_law_goes_on", none), "_law_goes_on", "_law_goes_on", defArgs s_law_goes_on, defBody s_law_goes_on, defScope s_law_goes_on, [], []⟩
def d_law : He.DefD := ⟨("law", none), "law", "law", defArgs s_law, defBody s_law, defScope s_law, [], []⟩
def d_Round_init : He.DefD := ⟨("Round", some "__init__"), "__init__", "Round.__init__", defArgs s_Round_init, defBody s_Round_init, defScope s_Round_init, [], []⟩
def d_Round_times_from : He.DefD := ⟨("Round", some "times_from"), "times_from", "Round.times_from", defArgs s_Round_times_from, defBody s_Round_times_from, defScope s_Round_times_from, [], []⟩
def d_Ways_init : He.DefD := ⟨("Ways", some "__init__"), "__init__", "Ways.__init__", defArgs s_Ways_init, defBody s_Ways_init, defScope s_Ways_init, [], []⟩
def d_Walk_init : He.DefD := ⟨("Walk", some "__init__"), "__init__", "Walk.__init__", defArgs s_Walk_init, defBody s_Walk_init, defScope s_Walk_init, [], []⟩
def d_Walk_step : He.DefD := ⟨("Walk", some "step"), "step", "Walk.step", defArgs s_Walk_step, defBody s_Walk_step, defScope s_Walk_step, [], []⟩
def d_Walk_is_over : He.DefD := ⟨("Walk", some "is_over"), "is_over", "Walk.is_over", defArgs s_Walk_is_over, defBody s_Walk_is_over, defScope s_Walk_is_over, [], []⟩
def d_Walk_is_refused : He.DefD := ⟨("Walk", some "is_refused"), "is_refused", "Walk.is_refused", defArgs s_Walk_is_refused, defBody s_Walk_is_refused, defScope s_Walk_is_refused, [], []⟩
def d_Walk_spot : He.DefD := ⟨("Walk", some "spot"), "spot", "Walk.spot", defArgs s_Walk_spot, defBody s_Walk_spot, defScope s_Walk_spot, [], []⟩
def d_Walk_round_here : He.DefD := ⟨("Walk", some "round_here"), "round_here", "Walk.round_here", defArgs s_Walk_round_here, defBody s_Walk_round_here, defScope s_Walk_round_here, [], []⟩
def d_Walk_times_here : He.DefD := ⟨("Walk", some "times_here"), "times_here", "Walk.times_here", defArgs s_Walk_times_here, defBody s_Walk_times_here, defScope s_Walk_times_here, [], []⟩
def d_Walk_go_round : He.DefD := ⟨("Walk", some "go_round"), "go_round", "Walk.go_round", defArgs s_Walk_go_round, defBody s_Walk_go_round, defScope s_Walk_go_round, [], []⟩
def d_Walk_go_on : He.DefD := ⟨("Walk", some "go_on"), "go_on", "Walk.go_on", defArgs s_Walk_go_on, defBody s_Walk_go_on, defScope s_Walk_go_on, [], []⟩
def fn : List He.DefD := ([d_common_divisor, d_common_multiple, d_round_number, d_free_step, d_round_at, d_course, d_answer, d_length, d_go_far, d_walk_by, d_stands, d_law_deck, d_law_draw, d_law_one, d_law_far, d_law_number, d_law_mixed, d_law_step_drawn, d_law_program, d_law_loops] : List He.DefD) ++ ([d_law_any, d_law_common, d_law_size, d_law_free, d_law_run, d_law_answer, d_law_renumbered, d_law_goes_on, d_law, d_Round_init, d_Round_times_from, d_Ways_init, d_Walk_init, d_Walk_step, d_Walk_is_over, d_Walk_is_refused, d_Walk_spot, d_Walk_round_here, d_Walk_times_here, d_Walk_go_round] : List He.DefD) ++ ([d_Walk_go_on] : List He.DefD)
def fa : List He.Fa := ([.glo "common_divisor", .glo "common_multiple", .glo "round_number", .glo "free_step", .glo "round_at", .glo "course", .glo "answer", .glo "length", .glo "go_far", .glo "walk_by", .glo "stands", .glo "_law_deck", .glo "_law_draw", .glo "_law_one", .glo "_law_far", .glo "_law_number", .glo "_law_mixed", .glo "_law_step_drawn", .glo "_law_program", .glo "_law_loops"] : List He.Fa) ++ ([.glo "_law_any", .glo "_law_common", .glo "_law_size", .glo "_law_free", .glo "_law_run", .glo "_law_answer", .glo "_law_renumbered", .glo "_law_goes_on", .glo "law", .glo "Round", .glo "Ways", .glo "Walk", .free "len", .free "max", .free "min", .free "range", .free "tuple", .free "int", .free "sum", .free "list"] : List He.Fa) ++ ([.free "dict", .free "enumerate", .free "repr", .str "NEVER" "never", .cls "Round", .mkr "Round", .noat "Round" "steps", .noat "Round" "fall", .noat "Round" "need", .noat "Round" "places", .meth "Round" "times_from", .cls "Ways", .mkr "Ways", .noat "Ways" "program", .noat "Ways" "many", .noat "Ways" "rounds", .cls "Walk", .mkr "Walk", .noat "Walk" "ways", .noat "Walk" "place"] : List He.Fa) ++ ([.noat "Walk" "counter", .meth "Walk" "step", .meth "Walk" "is_over", .meth "Walk" "is_refused", .meth "Walk" "spot", .meth "Walk" "round_here", .meth "Walk" "times_here", .meth "Walk" "go_round", .meth "Walk" "go_on"] : List He.Fa)
def names : List Str := (["_wall", "common_divisor", "common_multiple", "NEVER", "round_number", "free_step", "Round", "round_at", "Ways", "Walk", "course", "answer"] : List Str) ++ (["length", "go_far", "walk_by", "stands", "_law_deck", "_law_draw", "_law_one", "_law_far", "_law_number", "_law_mixed", "_law_step_drawn", "_law_program"] : List Str) ++ (["_law_loops", "_law_any", "_law_common", "_law_size", "_law_free", "_law_run", "_law_answer", "_law_renumbered", "_law_goes_on"] : List Str)
abbrev R : PySem.W.OpenRow := PySem.W.OpenLaw.row PySem.Challenge.rw_leastmakers_k53_whole_great_numbers_and
abbrev hk : PySem.W.Hook := He.hookD 4 fa fn
def ob (s : PySem.W.SharedT) : He.AlD := He.obsDG 4 fa fn (HandSHeadRun.getT s)
theorem ob_eq (s : PySem.W.SharedT) : ob s = hk.obs s.abs := He.obsDG_eq (HandSHeadRun.getT_eq s)
theorem run (w : World) : HandSHeadRun.RunEq R (PySem.W.view R.prog [36]) hk ob 8000 names w := by
  intro os
  kernel_rfl
theorem kwLen {K : PySem.W.Frag} {f : Addr} {fd : FuncData} (F : FnP K "length" "length" s_length f fd) : KBinds K fd ["program", "number"] ["number", "program"] swp swp := by
  obtain ⟨oc, od, dV, kV, doc, pm, an, cdv, ct, osl, rfl, lk, hcd, hD, hK⟩ := F.ex
  rcases hD with ⟨_, rfl⟩ | ⟨e, _⟩
  · refine ⟨fun s us ws _ hl => ?_, fun r1 r2 => ?_⟩
    · match us, ws, hl with
      | [], [n, p], _ => exact .of_eq rfl
      | [], [], h => exact absurd h (by decide)
      | [], [_], h => exact absurd h (by simp [swp])
      | [], _ :: _ :: _ :: _, h => exact absurd h (by simp [swp])
      | _ :: _, _, h => exact absurd h (by simp [swp])
    · cases r1 with
      | cons _ _ => exact .nil
      | nil =>
        cases r2 with
        | nil => exact .nil
        | cons a r =>
          cases r with
          | nil => exact .nil
          | cons b r =>
            cases r with
            | nil => exact .cons b (.cons a .nil)
            | cons _ _ => exact .nil
  · exact absurd rfl e
theorem facts {P : Program} {w : World} {K : PySem.W.Frag} {h : Heap} {mg : Str → Option Value} {fl : Addr} (X : K.In h) (G : h.Ns mainGlobals mg) (hfa : mg ("law" : Str) = some (.ref fl)) (c : He.SaysD fa fn K) :
    ∃ fd : FuncData, (∀ (s : Shared) (v : Value), BindsTo s fd ⟨[v], []⟩ [("_law_script", v)]) ∧ ∀ base : Heap, K.In base → base.Ns mainGlobals mg → GOk P w K mg base 9 fl fd ["_law_script"] (spLaw K) := by
  obtain ⟨fd_common_divisor, F_common_divisor⟩ := c.def_ 0 (d := d_common_divisor) rfl
  obtain ⟨fd_common_multiple, F_common_multiple⟩ := c.def_ 1 (d := d_common_multiple) rfl
  obtain ⟨fd_round_number, F_round_number⟩ := c.def_ 2 (d := d_round_number) rfl
  obtain ⟨fd_free_step, F_free_step⟩ := c.def_ 3 (d := d_free_step) rfl
  obtain ⟨fd_round_at, F_round_at⟩ := c.def_ 4 (d := d_round_at) rfl
  obtain ⟨fd_course, F_course⟩ := c.def_ 5 (d := d_course) rfl
  obtain ⟨fd_answer, F_answer⟩ := c.def_ 6 (d := d_answer) rfl
  obtain ⟨fd_length, F_length⟩ := c.def_ 7 (d := d_length) rfl
  obtain ⟨fd_go_far, F_go_far⟩ := c.def_ 8 (d := d_go_far) rfl
  obtain ⟨fd_walk_by, F_walk_by⟩ := c.def_ 9 (d := d_walk_by) rfl
  obtain ⟨fd_stands, F_stands⟩ := c.def_ 10 (d := d_stands) rfl
  obtain ⟨fd_law_deck, F_law_deck⟩ := c.def_ 11 (d := d_law_deck) rfl
  obtain ⟨fd_law_draw, F_law_draw⟩ := c.def_ 12 (d := d_law_draw) rfl
  obtain ⟨fd_law_one, F_law_one⟩ := c.def_ 13 (d := d_law_one) rfl
  obtain ⟨fd_law_far, F_law_far⟩ := c.def_ 14 (d := d_law_far) rfl
  obtain ⟨fd_law_number, F_law_number⟩ := c.def_ 15 (d := d_law_number) rfl
  obtain ⟨fd_law_mixed, F_law_mixed⟩ := c.def_ 16 (d := d_law_mixed) rfl
  obtain ⟨fd_law_step_drawn, F_law_step_drawn⟩ := c.def_ 17 (d := d_law_step_drawn) rfl
  obtain ⟨fd_law_program, F_law_program⟩ := c.def_ 18 (d := d_law_program) rfl
  obtain ⟨fd_law_loops, F_law_loops⟩ := c.def_ 19 (d := d_law_loops) rfl
  obtain ⟨fd_law_any, F_law_any⟩ := c.def_ 20 (d := d_law_any) rfl
  obtain ⟨fd_law_common, F_law_common⟩ := c.def_ 21 (d := d_law_common) rfl
  obtain ⟨fd_law_size, F_law_size⟩ := c.def_ 22 (d := d_law_size) rfl
  obtain ⟨fd_law_free, F_law_free⟩ := c.def_ 23 (d := d_law_free) rfl
  obtain ⟨fd_law_run, F_law_run⟩ := c.def_ 24 (d := d_law_run) rfl
  obtain ⟨fd_law_answer, F_law_answer⟩ := c.def_ 25 (d := d_law_answer) rfl
  obtain ⟨fd_law_renumbered, F_law_renumbered⟩ := c.def_ 26 (d := d_law_renumbered) rfl
  obtain ⟨fd_law_goes_on, F_law_goes_on⟩ := c.def_ 27 (d := d_law_goes_on) rfl
  obtain ⟨fd_law, F_law⟩ := c.def_ 28 (d := d_law) rfl
  obtain ⟨fd_Round_init, F_Round_init⟩ := c.def_ 29 (d := d_Round_init) rfl
  obtain ⟨fd_Round_times_from, F_Round_times_from⟩ := c.def_ 30 (d := d_Round_times_from) rfl
  obtain ⟨fd_Ways_init, F_Ways_init⟩ := c.def_ 31 (d := d_Ways_init) rfl
  obtain ⟨fd_Walk_init, F_Walk_init⟩ := c.def_ 32 (d := d_Walk_init) rfl
  obtain ⟨fd_Walk_step, F_Walk_step⟩ := c.def_ 33 (d := d_Walk_step) rfl
  obtain ⟨fd_Walk_is_over, F_Walk_is_over⟩ := c.def_ 34 (d := d_Walk_is_over) rfl
  obtain ⟨fd_Walk_is_refused, F_Walk_is_refused⟩ := c.def_ 35 (d := d_Walk_is_refused) rfl
  obtain ⟨fd_Walk_spot, F_Walk_spot⟩ := c.def_ 36 (d := d_Walk_spot) rfl
  obtain ⟨fd_Walk_round_here, F_Walk_round_here⟩ := c.def_ 37 (d := d_Walk_round_here) rfl
  obtain ⟨fd_Walk_times_here, F_Walk_times_here⟩ := c.def_ 38 (d := d_Walk_times_here) rfl
  obtain ⟨fd_Walk_go_round, F_Walk_go_round⟩ := c.def_ 39 (d := d_Walk_go_round) rfl
  obtain ⟨fd_Walk_go_on, F_Walk_go_on⟩ := c.def_ 40 (d := d_Walk_go_on) rfl
  have e := hfa.symm.trans (He.glo_ok X G (c.fact 28 (f := .glo "law") rfl))
  cases e
  have bl := FunD.bindsA (ps := ["_law_script"]) F_law fun _ _ _ _ _ _ us hl => match us, hl with | [_], _ => rfl
  obtain ⟨tN, hnv⟩ := He.str_ok X G (c.fact 43 (f := .str "NEVER" "never") rfl)
  have T : Txt K mg (He.ga K "Round") (He.ga K "Ways") (He.ga K "Walk") tN := { clRound := He.cls_ok (c.fact 44 (f := .cls "Round") rfl), clWalk := He.cls_ok (c.fact 56 (f := .cls "Walk") rfl), clWays := He.cls_ok (c.fact 51 (f := .cls "Ways") rfl), nRs := He.noat_ok (c.fact 46 (f := .noat "Round" "steps") rfl), nRf := He.noat_ok (c.fact 47 (f := .noat "Round" "fall") rfl), nRn := He.noat_ok (c.fact 48 (f := .noat "Round" "need") rfl), nRp := He.noat_ok (c.fact 49 (f := .noat "Round" "places") rfl), nYp := He.noat_ok (c.fact 53 (f := .noat "Ways" "program") rfl), nYm := He.noat_ok (c.fact 54 (f := .noat "Ways" "many") rfl), nYr := He.noat_ok (c.fact 55 (f := .noat "Ways" "rounds") rfl), nWw := He.noat_ok (c.fact 58 (f := .noat "Walk" "ways") rfl), nWp := He.noat_ok (c.fact 59 (f := .noat "Walk" "place") rfl), nWc := He.noat_ok (c.fact 60 (f := .noat "Walk" "counter") rfl), len_ := He.free_ok X G (c.fact 32 (f := .free "len") rfl), max_ := He.free_ok X G (c.fact 33 (f := .free "max") rfl), min_ := He.free_ok X G (c.fact 34 (f := .free "min") rfl), range_ := He.free_ok X G (c.fact 35 (f := .free "range") rfl), tuple_ := He.free_ok X G (c.fact 36 (f := .free "tuple") rfl), int_ := He.free_ok X G (c.fact 37 (f := .free "int") rfl), sum_ := He.free_ok X G (c.fact 38 (f := .free "sum") rfl), list_ := He.free_ok X G (c.fact 39 (f := .free "list") rfl), dict_ := He.free_ok X G (c.fact 40 (f := .free "dict") rfl), enumerate_ := He.free_ok X G (c.fact 41 (f := .free "enumerate") rfl), repr_ := He.free_ok X G (c.fact 42 (f := .free "repr") rfl), never := hnv }
  refine ⟨fd_law, fun s v => bl s [v] rfl, fun base _ _ => ?_⟩
  have C_common_divisor : CalOk P w K mg base "common_divisor" _ ["one", "other"] _ (He.ga K "common_divisor") fd_common_divisor := ⟨ok_common_divisor F_common_divisor, He.glo_ok X G (c.fact 0 (f := .glo "common_divisor") rfl), F_common_divisor.kp, FunD.bindsN (ps := ["one", "other"]) F_common_divisor fun _ _ _ _ _ _ us hl => match us, hl with | [_, _], _ => rfl⟩
  have C_common_multiple : CalOk P w K mg base "common_multiple" _ ["one", "other"] _ (He.ga K "common_multiple") fd_common_multiple := ⟨ok_common_multiple F_common_multiple C_common_divisor, He.glo_ok X G (c.fact 1 (f := .glo "common_multiple") rfl), F_common_multiple.kp, FunD.bindsN (ps := ["one", "other"]) F_common_multiple fun _ _ _ _ _ _ us hl => match us, hl with | [_, _], _ => rfl⟩
  have C_round_number : CalOk P w K mg base "round_number" _ ["program"] _ (He.ga K "round_number") fd_round_number := ⟨ok_round_number F_round_number C_common_multiple, He.glo_ok X G (c.fact 2 (f := .glo "round_number") rfl), F_round_number.kp, FunD.bindsN (ps := ["program"]) F_round_number fun _ _ _ _ _ _ us hl => match us, hl with | [_], _ => rfl⟩
  have C_free_step : CalOk P w K mg base "free_step" _ ["step", "counter"] _ (He.ga K "free_step") fd_free_step := ⟨ok_free_step F_free_step, He.glo_ok X G (c.fact 3 (f := .glo "free_step") rfl), F_free_step.kp, FunD.bindsN (ps := ["step", "counter"]) F_free_step fun _ _ _ _ _ _ us hl => match us, hl with | [_, _], _ => rfl⟩
  have C_law_deck : CalOk P w K mg base "_law_deck" _ ["_law_script"] _ (He.ga K "_law_deck") fd_law_deck := ⟨ok_law_deck T F_law_deck, He.glo_ok X G (c.fact 11 (f := .glo "_law_deck") rfl), F_law_deck.kp, FunD.bindsN (ps := ["_law_script"]) F_law_deck fun _ _ _ _ _ _ us hl => match us, hl with | [_], _ => rfl⟩
  have C_law_draw : CalOk P w K mg base "_law_draw" _ ["_law_deck_here", "_law_many"] _ (He.ga K "_law_draw") fd_law_draw := ⟨ok_law_draw T F_law_draw, He.glo_ok X G (c.fact 12 (f := .glo "_law_draw") rfl), F_law_draw.kp, FunD.bindsN (ps := ["_law_deck_here", "_law_many"]) F_law_draw fun _ _ _ _ _ _ us hl => match us, hl with | [_, _], _ => rfl⟩
  have C_law_one : CalOk P w K mg base "_law_one" _ ["_law_deck_here", "_law_items"] _ (He.ga K "_law_one") fd_law_one := ⟨ok_law_one T F_law_one C_law_draw, He.glo_ok X G (c.fact 13 (f := .glo "_law_one") rfl), F_law_one.kp, FunD.bindsN (ps := ["_law_deck_here", "_law_items"]) F_law_one fun _ _ _ _ _ _ us hl => match us, hl with | [_, _], _ => rfl⟩
  have C_law_far : CalOk P w K mg base "_law_far" _ ["_law_deck_here", "_law_many"] _ (He.ga K "_law_far") fd_law_far := ⟨ok_law_far T F_law_far C_law_draw, He.glo_ok X G (c.fact 14 (f := .glo "_law_far") rfl), F_law_far.kp, FunD.bindsN (ps := ["_law_deck_here", "_law_many"]) F_law_far fun _ _ _ _ _ _ us hl => match us, hl with | [_, _], _ => rfl⟩
  have C_law_number : CalOk P w K mg base "_law_number" _ ["_law_deck_here", "_law_most"] _ (He.ga K "_law_number") fd_law_number := ⟨ok_law_number T F_law_number C_law_draw C_law_one C_law_far, He.glo_ok X G (c.fact 15 (f := .glo "_law_number") rfl), F_law_number.kp, FunD.bindsN (ps := ["_law_deck_here", "_law_most"]) F_law_number fun _ _ _ _ _ _ us hl => match us, hl with | [_, _], _ => rfl⟩
  have C_law_mixed : CalOk P w K mg base "_law_mixed" _ ["_law_deck_here", "_law_items"] _ (He.ga K "_law_mixed") fd_law_mixed := ⟨ok_law_mixed T F_law_mixed C_law_draw, He.glo_ok X G (c.fact 16 (f := .glo "_law_mixed") rfl), F_law_mixed.kp, FunD.bindsN (ps := ["_law_deck_here", "_law_items"]) F_law_mixed fun _ _ _ _ _ _ us hl => match us, hl with | [_, _], _ => rfl⟩
  have C_law_step_drawn : CalOk P w K mg base "_law_step_drawn" _ ["_law_deck_here", "_law_word", "_law_place", "_law_many", "_law_sizes"] _ (He.ga K "_law_step_drawn") fd_law_step_drawn := ⟨ok_law_step_drawn T F_law_step_drawn C_law_draw C_law_one, He.glo_ok X G (c.fact 17 (f := .glo "_law_step_drawn") rfl), F_law_step_drawn.kp, FunD.bindsN (ps := ["_law_deck_here", "_law_word", "_law_place", "_law_many", "_law_sizes"]) F_law_step_drawn fun _ _ _ _ _ _ us hl => match us, hl with | [_, _, _, _, _], _ => rfl⟩
  have C_law_program : CalOk P w K mg base "_law_program" _ ["_law_deck_here"] _ (He.ga K "_law_program") fd_law_program := ⟨ok_law_program T F_law_program C_law_draw C_law_one C_law_step_drawn, He.glo_ok X G (c.fact 18 (f := .glo "_law_program") rfl), F_law_program.kp, FunD.bindsN (ps := ["_law_deck_here"]) F_law_program fun _ _ _ _ _ _ us hl => match us, hl with | [_], _ => rfl⟩
  have C_law_loops : CalOk P w K mg base "_law_loops" _ ["_law_deck_here"] _ (He.ga K "_law_loops") fd_law_loops := ⟨ok_law_loops T F_law_loops C_law_draw C_law_one, He.glo_ok X G (c.fact 19 (f := .glo "_law_loops") rfl), F_law_loops.kp, FunD.bindsN (ps := ["_law_deck_here"]) F_law_loops fun _ _ _ _ _ _ us hl => match us, hl with | [_], _ => rfl⟩
  have C_law_any : CalOk P w K mg base "_law_any" _ ["_law_deck_here"] _ (He.ga K "_law_any") fd_law_any := ⟨ok_law_any T F_law_any C_law_draw C_law_loops C_law_program, He.glo_ok X G (c.fact 20 (f := .glo "_law_any") rfl), F_law_any.kp, FunD.bindsN (ps := ["_law_deck_here"]) F_law_any fun _ _ _ _ _ _ us hl => match us, hl with | [_], _ => rfl⟩
  have C_law_common : CalOk P w K mg base "_law_common" _ ["_law_one_here", "_law_other"] _ (He.ga K "_law_common") fd_law_common := ⟨ok_law_common T F_law_common, He.glo_ok X G (c.fact 21 (f := .glo "_law_common") rfl), F_law_common.kp, FunD.bindsN (ps := ["_law_one_here", "_law_other"]) F_law_common fun _ _ _ _ _ _ us hl => match us, hl with | [_, _], _ => rfl⟩
  have C_law_size : CalOk P w K mg base "_law_size" _ ["_law_program_here"] _ (He.ga K "_law_size") fd_law_size := ⟨ok_law_size F_law_size C_law_common, He.glo_ok X G (c.fact 22 (f := .glo "_law_size") rfl), F_law_size.kp, FunD.bindsN (ps := ["_law_program_here"]) F_law_size fun _ _ _ _ _ _ us hl => match us, hl with | [_], _ => rfl⟩
  have C_law_free : CalOk P w K mg base "_law_free" _ ["_law_program_here", "_law_place", "_law_counter", "_law_size_here"] _ (He.ga K "_law_free") fd_law_free := ⟨ok_law_free T F_law_free, He.glo_ok X G (c.fact 23 (f := .glo "_law_free") rfl), F_law_free.kp, FunD.bindsN (ps := ["_law_program_here", "_law_place", "_law_counter", "_law_size_here"]) F_law_free fun _ _ _ _ _ _ us hl => match us, hl with | [_, _, _, _], _ => rfl⟩
  have C_law_run : CalOk P w K mg base "_law_run" _ ["_law_program_here", "_law_number_here", "_law_count"] _ (He.ga K "_law_run") fd_law_run := ⟨ok_law_run T F_law_run C_law_size C_law_free, He.glo_ok X G (c.fact 24 (f := .glo "_law_run") rfl), F_law_run.kp, FunD.bindsN (ps := ["_law_program_here", "_law_number_here", "_law_count"]) F_law_run fun _ _ _ _ _ _ us hl => match us, hl with | [_, _, _], _ => rfl⟩
  have C_law_answer : CalOk P w K mg base "_law_answer" _ ["_law_program_here", "_law_number_here"] _ (He.ga K "_law_answer") fd_law_answer := ⟨ok_law_answer T F_law_answer C_law_run, He.glo_ok X G (c.fact 25 (f := .glo "_law_answer") rfl), F_law_answer.kp, FunD.bindsN (ps := ["_law_program_here", "_law_number_here"]) F_law_answer fun _ _ _ _ _ _ us hl => match us, hl with | [_, _], _ => rfl⟩
  have C_law_renumbered : CalOk P w K mg base "_law_renumbered" _ ["_law_program_here", "_law_order"] _ (He.ga K "_law_renumbered") fd_law_renumbered := ⟨ok_law_renumbered T F_law_renumbered, He.glo_ok X G (c.fact 26 (f := .glo "_law_renumbered") rfl), F_law_renumbered.kp, FunD.bindsN (ps := ["_law_program_here", "_law_order"]) F_law_renumbered fun _ _ _ _ _ _ us hl => match us, hl with | [_, _], _ => rfl⟩
  have CRound : ConOk P w K mg base (He.ga K "Round") "Round" _ ["self", "steps", "fall", "need", "places"] _ (He.ma K (He.ga K "Round") "__init__") fd_Round_init := ⟨ok_Round_init T F_Round_init, He.mkr_ok (c.fact 45 (f := .mkr "Round") rfl), He.glo_ok X G (c.fact 29 (f := .glo "Round") rfl), FunD.bindsN (ps := ["self", "steps", "fall", "need", "places"]) F_Round_init fun _ _ _ _ _ _ us hl => match us, hl with | [_, _, _, _, _], _ => rfl⟩
  have M_times_from : MetOk P w K mg base (He.ga K "Round") "times_from" _ ["self", "counter"] _ (He.ma K (He.ga K "Round") "times_from") fd_Round_times_from := ⟨ok_times_from T F_Round_times_from, He.meth_ok (c.fact 50 (f := .meth "Round" "times_from") rfl), FunD.bindsN (ps := ["self", "counter"]) F_Round_times_from fun _ _ _ _ _ _ us hl => match us, hl with | [_, _], _ => rfl⟩
  have CWalk : ConOk P w K mg base (He.ga K "Walk") "Walk" _ ["self", "ways", "place", "counter"] _ (He.ma K (He.ga K "Walk") "__init__") fd_Walk_init := ⟨ok_Walk_init T F_Walk_init, He.mkr_ok (c.fact 57 (f := .mkr "Walk") rfl), He.glo_ok X G (c.fact 31 (f := .glo "Walk") rfl), FunD.bindsN (ps := ["self", "ways", "place", "counter"]) F_Walk_init fun _ _ _ _ _ _ us hl => match us, hl with | [_, _, _, _], _ => rfl⟩
  have M_step : MetOk P w K mg base (He.ga K "Walk") "step" _ ["self"] _ (He.ma K (He.ga K "Walk") "step") fd_Walk_step := ⟨ok_Walk_step T F_Walk_step, He.meth_ok (c.fact 61 (f := .meth "Walk" "step") rfl), FunD.bindsN (ps := ["self"]) F_Walk_step fun _ _ _ _ _ _ us hl => match us, hl with | [_], _ => rfl⟩
  have M_is_over : MetOk P w K mg base (He.ga K "Walk") "is_over" _ ["self"] _ (He.ma K (He.ga K "Walk") "is_over") fd_Walk_is_over := ⟨ok_is_over T F_Walk_is_over M_step, He.meth_ok (c.fact 62 (f := .meth "Walk" "is_over") rfl), FunD.bindsN (ps := ["self"]) F_Walk_is_over fun _ _ _ _ _ _ us hl => match us, hl with | [_], _ => rfl⟩
  have M_is_refused : MetOk P w K mg base (He.ga K "Walk") "is_refused" _ ["self"] _ (He.ma K (He.ga K "Walk") "is_refused") fd_Walk_is_refused := ⟨ok_is_refused T F_Walk_is_refused M_step, He.meth_ok (c.fact 63 (f := .meth "Walk" "is_refused") rfl), FunD.bindsN (ps := ["self"]) F_Walk_is_refused fun _ _ _ _ _ _ us hl => match us, hl with | [_], _ => rfl⟩
  have M_spot : MetOk P w K mg base (He.ga K "Walk") "spot" _ ["self"] _ (He.ma K (He.ga K "Walk") "spot") fd_Walk_spot := ⟨ok_spot T F_Walk_spot, He.meth_ok (c.fact 64 (f := .meth "Walk" "spot") rfl), FunD.bindsN (ps := ["self"]) F_Walk_spot fun _ _ _ _ _ _ us hl => match us, hl with | [_], _ => rfl⟩
  have M_round_here : MetOk P w K mg base (He.ga K "Walk") "round_here" _ ["self"] _ (He.ma K (He.ga K "Walk") "round_here") fd_Walk_round_here := ⟨ok_round_here T F_Walk_round_here, He.meth_ok (c.fact 65 (f := .meth "Walk" "round_here") rfl), FunD.bindsN (ps := ["self"]) F_Walk_round_here fun _ _ _ _ _ _ us hl => match us, hl with | [_], _ => rfl⟩
  have M_times_here : MetOk P w K mg base (He.ga K "Walk") "times_here" _ ["self"] _ (He.ma K (He.ga K "Walk") "times_here") fd_Walk_times_here := ⟨ok_times_here T F_Walk_times_here M_round_here M_times_from, He.meth_ok (c.fact 66 (f := .meth "Walk" "times_here") rfl), FunD.bindsN (ps := ["self"]) F_Walk_times_here fun _ _ _ _ _ _ us hl => match us, hl with | [_], _ => rfl⟩
  have M_go_round : MetOk P w K mg base (He.ga K "Walk") "go_round" _ ["self", "times"] _ (He.ma K (He.ga K "Walk") "go_round") fd_Walk_go_round := ⟨ok_go_round T F_Walk_go_round M_round_here, He.meth_ok (c.fact 67 (f := .meth "Walk" "go_round") rfl), FunD.bindsN (ps := ["self", "times"]) F_Walk_go_round fun _ _ _ _ _ _ us hl => match us, hl with | [_, _], _ => rfl⟩
  have M_go_on : MetOk P w K mg base (He.ga K "Walk") "go_on" _ ["self"] _ (He.ma K (He.ga K "Walk") "go_on") fd_Walk_go_on := ⟨ok_go_on T F_Walk_go_on M_step M_is_refused C_free_step, He.meth_ok (c.fact 68 (f := .meth "Walk" "go_on") rfl), FunD.bindsN (ps := ["self"]) F_Walk_go_on fun _ _ _ _ _ _ us hl => match us, hl with | [_], _ => rfl⟩
  have C_round_at : CalOk P w K mg base "round_at" _ ["program", "place", "rest", "many"] _ (He.ga K "round_at") fd_round_at := ⟨ok_round_at T F_round_at C_free_step CRound, He.glo_ok X G (c.fact 4 (f := .glo "round_at") rfl), F_round_at.kp, FunD.bindsN (ps := ["program", "place", "rest", "many"]) F_round_at fun _ _ _ _ _ _ us hl => match us, hl with | [_, _, _, _], _ => rfl⟩
  have C_course : CalOk P w K mg base "course" _ ["ways", "place", "number"] _ (He.ga K "course") fd_course := ⟨ok_course T F_course CWalk M_is_over M_times_here M_round_here M_go_round M_is_refused M_spot M_go_on M_step, He.glo_ok X G (c.fact 5 (f := .glo "course") rfl), F_course.kp, FunD.bindsN (ps := ["ways", "place", "number"]) F_course fun _ _ _ _ _ _ us hl => match us, hl with | [_, _, _], _ => rfl⟩
  have C_go_far : CalOk P w K mg base "go_far" _ ["walk", "count"] _ (He.ga K "go_far") fd_go_far := ⟨ok_go_far T F_go_far M_is_over M_times_here M_round_here M_go_round M_is_refused M_spot M_go_on, He.glo_ok X G (c.fact 8 (f := .glo "go_far") rfl), F_go_far.kp, FunD.bindsN (ps := ["walk", "count"]) F_go_far fun _ _ _ _ _ _ us hl => match us, hl with | [_, _], _ => rfl⟩
  have CWays : ConOk P w K mg base (He.ga K "Ways") "Ways" _ ["self", "program"] _ (He.ma K (He.ga K "Ways") "__init__") fd_Ways_init := ⟨ok_Ways_init T F_Ways_init C_round_number C_round_at, He.mkr_ok (c.fact 52 (f := .mkr "Ways") rfl), He.glo_ok X G (c.fact 30 (f := .glo "Ways") rfl), FunD.bindsN (ps := ["self", "program"]) F_Ways_init fun _ _ _ _ _ _ us hl => match us, hl with | [_, _], _ => rfl⟩
  have C_answer : CalOk P w K mg base "answer" _ ["program", "number"] _ (He.ga K "answer") fd_answer := ⟨ok_answer T F_answer CWays C_course, He.glo_ok X G (c.fact 6 (f := .glo "answer") rfl), F_answer.kp, FunD.bindsN (ps := ["program", "number"]) F_answer fun _ _ _ _ _ _ us hl => match us, hl with | [_, _], _ => rfl⟩
  have C_length : CalOk P w K mg base "length" _ ["program", "number"] _ (He.ga K "length") fd_length := ⟨ok_length T F_length CWays C_course, He.glo_ok X G (c.fact 7 (f := .glo "length") rfl), F_length.kp, FunD.bindsN (ps := ["program", "number"]) F_length fun _ _ _ _ _ _ us hl => match us, hl with | [_, _], _ => rfl⟩
  have C_walk_by : CalOk P w K mg base "walk_by" _ ["program", "number", "count"] _ (He.ga K "walk_by") fd_walk_by := ⟨ok_walk_by T F_walk_by CWays CWalk C_go_far, He.glo_ok X G (c.fact 9 (f := .glo "walk_by") rfl), F_walk_by.kp, FunD.bindsN (ps := ["program", "number", "count"]) F_walk_by fun _ _ _ _ _ _ us hl => match us, hl with | [_, _, _], _ => rfl⟩
  have C_stands : CalOk P w K mg base "stands" _ ["program", "number", "count"] _ (He.ga K "stands") fd_stands := ⟨ok_stands T F_stands C_walk_by M_spot, He.glo_ok X G (c.fact 10 (f := .glo "stands") rfl), F_stands.kp, FunD.bindsN (ps := ["program", "number", "count"]) F_stands fun _ _ _ _ _ _ us hl => match us, hl with | [_, _, _], _ => rfl⟩
  have C_law_goes_on : CalG P w K mg base "_law_goes_on" _ ["_law_deck_here", "_law_program_here", "_law_number_here", "_law_count", "_law_word", "_law_steps"] _ (He.ga K "_law_goes_on") fd_law_goes_on := ⟨ok_law_goes_on T F_law_goes_on C_law_run C_stands C_law_mixed C_law_renumbered C_law_number C_answer C_length, He.glo_ok X G (c.fact 27 (f := .glo "_law_goes_on") rfl), F_law_goes_on.kp, FunD.bindsN (ps := ["_law_deck_here", "_law_program_here", "_law_number_here", "_law_count", "_law_word", "_law_steps"]) F_law_goes_on fun _ _ _ _ _ _ us hl => match us, hl with | [_, _, _, _, _, _], _ => rfl⟩
  exact ok_law (P := P) (w := w) (base := base) T F_law C_law_deck C_law_any C_law_number C_law_far C_law_draw C_law_answer C_answer C_length (kwLen F_length) C_law_mixed C_law_goes_on
end K53
open PySem PySem.W PySem.Calls PyProof.Rows
theorem PySem.Challenge.cw_leastmakers_k53_whole_great_numbers_and_holds : PySem.Challenge.rw_leastmakers_k53_whole_great_numbers_and.Holds := by
  w_on; o_law
  refine HandSHeadRun.head_any (r := OpenLaw.row PySem.Challenge.rw_leastmakers_k53_whole_great_numbers_and) (q := view (OpenLaw.row PySem.Challenge.rw_leastmakers_k53_whole_great_numbers_and).prog [36]) (H := K53.hk) (ob := K53.ob) (M := 8000) (loose := K53.names) (d := HandSHeadRun.topDef (OpenLaw.row PySem.Challenge.rw_leastmakers_k53_whole_great_numbers_and).prog 36) (kwd := []) K53.ob_eq
    (by kernel_rfl) (fun s => by kernel_rfl) K53.run (by kernel_rfl) (by kernel_rfl) (by kernel_rfl) (by rfl) (by first | assumption | decide +kernel) (by decide +kernel) ⟨rfl, rfl, rfl, rfl, rfl, by decide +kernel⟩ ?hw ?hc
  case hw => w_witness2
  case hc =>
    refine K53.walkG (l := PySem.Challenge.rw_leastmakers_k53_whole_great_numbers_and) (n := 63) (k := 9) (x := "_law_script") rfl (by decide) (by kernel_rfl) ⟨rfl, by decide, by decide⟩ ?F
    intro w mg fa h Y G hmg0
    obtain ⟨K, KX, c⟩ := Y
    have hmg : mg ("law" : PySem.Str) = some (.ref fa) := by
      have e : (HandSHeadRun.topDef (OpenLaw.row PySem.Challenge.rw_leastmakers_k53_whole_great_numbers_and).prog 36).name = ("law" : PySem.Str) := by kernel_rfl
      rw [← e]
      exact hmg0
    obtain ⟨fd, hb, hF⟩ := K53.facts (P := (PySem.Challenge.rw_leastmakers_k53_whole_great_numbers_and).prog) (w := w) KX G hmg c
    exact ⟨K, fd, K53.spLaw K, KX, hb, fun H a ns hl _ hS => ⟨a, ns, rfl, hS, Nat.le_trans hl (by decide), fun _ => rfl⟩, hF⟩
end

